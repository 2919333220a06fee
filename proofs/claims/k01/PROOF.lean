import PyProof.Rows.All
import Wide.All
import OpenK.AllK
import Wide.FinOn
import HandS.ForMost
import HandS.Exc
import HandS.ExcOwn
import HandS.ExcInit
import HandS.ExcIs
import HandS.TryOnly
import HandS.TryMany
import HandS.WordsExc
import HandS.Defaults
import HandS.Flow
import HandS.Style
import HandS.More
import HandS.Wide
import HandS.Walk
import HandS.Zip
import HandS.Rev
import HandS.IsInst
import HandS.EndBits
import HandS.Head0
import HandS.Head1
import HandS.Head2
import HandS.HeadEnd
import HandS.HeadHook1
import HandS.HeadHook2
import HandS.HeadHook3
import HandS.HeadHook4
import PySem.Challenge.RW_framerooms_k01_numbers_names_and_pairs
set_option Elab.async false
set_option linter.all false
set_option maxRecDepth 100000
set_option maxHeartbeats 4000000
/-! GBase: calls whose frames know that no repr is running (guards), for defs that may raise; repr of data. Own layer over HandS. -/
namespace FG
open PySem PySem.Spec L2
open PyProof.Rows hiding St

/-- room for calls, and no guard stands around -/
structure RG (k : Nat) (A : Around) : Prop where
  r : Room k A
  g : A.guards = some []
theorem RG.mono {j k : Nat} {A : Around} (h : RG k A) (q : j ≤ k := by decide) : RG j A := ⟨h.r.mono q, h.g⟩
theorem RG.hu {k : Nat} {A : Around} (h : RG k A) : A.units + 1 < cLine := hu_of h.r

/-- a def's promise where the guards are known -/
structure FnG (P : Program) (w : World) (K : PySem.W.Frag) (mg : Str → Option Value) (base : Heap) (k : Nat) (f : Addr) (fd : FuncData) (ps : List Str) (sp : Sp) : Prop where
  nargs : ∀ vs H Q E, sp vs H Q E → vs.length = ps.length
  goes : ∀ (A : Around) (outer : List Env) (s : Shared) (H : Hp) (ar : Args) (us : List Value) (vs : List V) (Q : VK) (E : XK),
    RG k A → Env0 P w K mg base A outer s H → BindsTo s fd ar (ps.zip us) → Vals vs us → sp vs H Q E → codeAny (model P w) A (.call (.ref f) ar) (CR (L2.CX P w) outer P w H s Q E) s
theorem FnG.weaker {P : Program} {w : World} {K : PySem.W.Frag} {mg : Str → Option Value} {base : Heap} {k : Nat} {f : Addr} {fd : FuncData} {ps : List Str} {sp sp' : Sp} (F : FnG P w K mg base k f fd ps sp)
    (h : ∀ vs H Q E, sp' vs H Q E → sp vs H Q E) : FnG P w K mg base k f fd ps sp' :=
  ⟨fun vs H Q E z => F.nargs vs H Q E (h _ _ _ _ z), fun A outer s H ar us vs Q E a b c d z => F.goes A outer s H ar us vs Q E a b c d (h _ _ _ _ z)⟩

section
variable {P : Program} {w : World} {K : PySem.W.Frag} {mg : Str → Option Value} {base : Heap}
/-- a def of the text, by its body -/
theorem FnG.of {x qual : Str} {st : Stmt} {f : Addr} {fd : FuncData} {N ps : List Str} {k : Nat} {sp : Sp} (F : Fun K x qual st f fd) (S : FnScope N ps (defScope st)) (hn : ∀ vs H Q E, sp vs H Q E → vs.length = ps.length)
    (hb : ∀ (cdv : Value) (A : Around) (outer : List Env) (s : Shared) (H : Hp) (vs : List V) (Q : VK) (E : XK), RG k (A.deeper (envOfC qual (defScope st) s.heap.objs.size f cdv)) → sp vs H Q E →
      ∃ t, PSs (cxOf (L2.CX P w) P w K mg base N qual (defScope st) f cdv A outer s H E) (defBody st) t ∧ t { nx := fun _ H' => Q .non H', rt := Q } (start N vs) H) : FnG P w K mg base (k + 1) f fd ps sp := by
  obtain ⟨oc, od, kV, doc, pm, an, cdv, ct, osl, rfl, lk, hcd⟩ := F.ex
  refine ⟨hn, fun A outer s H ar us vs Q E hg env0 bnd rel hsp => ?_⟩
  have len := hn _ _ _ _ hsp
  have inK : K.In s.heap := env0.mod.kin.keeps fun b o z => (env0.bs b o z).1
  have nol : s.heap.NoLimit := env0.mod.nolimit.keeps fun b o z => (env0.bs b o z).1
  have hk : ∀ y ∈ ps.zip us, (defScope st).names.lookup y.1 = some .local ∨ ((defScope st).names.lookup y.1 = some .cell ∧ ((cellsFrom (s.heap.objs.size + 1) (defScope st).names []).lookup y.1).isSome = true) := by
    rintro ⟨n, v⟩ hy
    exact (S.par n (List.of_mem_zip hy).1).elim .inl fun q => .inr ⟨q, PySem.W.cellsFrom_some _ _ _ (.inl q)⟩
  refine codeAny_call_function hg.r.depth (inK _ _ lk) rfl S.co S.gen rfl (PySem.W.codeRec_of inK hcd) (bnd _ _ _ _ ?_)
  refine wpAny_newFunctionEnv_cells S.kind hk fun env ee s1 inc => ?_
  subst ee
  refine ⟨nol.keeps inc.toInCall.keep, codeAny_func ?_⟩
  obtain ⟨t, ht, hq⟩ := hb cdv A outer s H vs Q E ⟨hg.r.deeper _, hg.g⟩ hsp
  have I0 : Inv (cxOf (L2.CX P w) P w K mg base N qual (defScope st) f cdv A outer s H E) [] (start N vs) H s1 := inv_start S hg.r.hd env0 len rel inc
  refine wpAny_mono (ht.run [] s1 (start N vs) H _ I0 hq) (fun fl s2 hs => ?_) fun _ _ hs => hs
  have fin : ∀ {σ2 : St} {H2 : Hp} {v : V} {u : Value}, Inv (cxOf (L2.CX P w) P w K mg base N qual (defScope st) f cdv A outer s H E) [] σ2 H2 s2 → RelV v u → Q v H2 → CE outer P w H s Q u s2 := by
    intro σ2 H2 v u J rv q
    exact ⟨v, H2, J.os, J.bare, J.base, J.hok, rv, q⟩
  match fl, hs with
  | .ret u, ⟨v, σ2, H2, J, rv, q⟩ => exact fin J rv q
  | .next, ⟨σ2, H2, J, q⟩ => exact fin (v := V.non) (u := Value.none) J rfl q
  | .brk, ⟨_, _, _, q⟩ => exact q.elim
  | .cont, ⟨_, _, _, q⟩ => exact q.elim
end

/-! ### defs, methods, classes as their callers see them -/
/-- the module's def x keeps sp -/
structure Cal (P : Program) (w : World) (K : PySem.W.Frag) (mg : Str → Option Value) (base : Heap) (k : Nat) (x : Str) (sp : Sp) : Prop where
  ex : ∃ (f : Addr) (fd : FuncData) (ps : List Str), FnG P w K mg base k f fd ps sp ∧ mg x = some (.ref f) ∧ PySem.W.keepIn K (.ref f) = true ∧ Binds K fd ps []
/-- the method m of the class at C keeps sp -/
structure Met (P : Program) (w : World) (K : PySem.W.Frag) (mg : Str → Option Value) (base : Heap) (k : Nat) (C : Addr) (m : Str) (sp : Sp) : Prop where
  ex : ∃ (f : Addr) (fd : FuncData) (ps : List Str), Cls K C ∧ Meth K C m f ∧ FnG P w K mg base k f fd ps sp ∧ Binds K fd ps []
/-- the class x, at C, is made by an __init__ that keeps sp -/
structure Mak (P : Program) (w : World) (K : PySem.W.Frag) (mg : Str → Option Value) (base : Heap) (k : Nat) (x : Str) (C : Addr) (sp : Sp) : Prop where
  ex : ∃ (f : Addr) (fd : FuncData) (ps : List Str), Mk K C f ∧ FnG P w K mg base k f fd ps sp ∧ mg x = some (.ref C) ∧ Binds K fd ps []

theorem make_guards {A : Around} {C : Addr} {us : List Value} {kw : List (Str × Value)} : (A.under (.builtin "type.__call__" ⟨.ref C :: us, kw⟩)).guards = A.guards := by
  first | rfl | simp [Around.under, Code.guards, Code.isGuard, guardIds, pushGuards]

/-- a call's reading: the arguments, then the promise; W: what is wanted of an exception -/
def tG (sp : Sp) (W : WX) (t : TA) : TE := fun σ H Q => t σ H fun vs H1 => sp vs H1 Q (fun cls d H2 => W cls d σ H2)
/-- o.m(..) -/
def tGm (C : Addr) (m : Str) (sp : Sp) (W : WX) (ta : TE) (t : TA) : TE := fun σ H Q => ta σ H fun x H1 => ∃ a dx fs, x = .ref a ∧ H1 a = some (.ins C dx fs) ∧ fs.lookup m = none ∧
  t σ H1 fun vs H2 => sp (x :: vs) H2 Q (fun cls d H3 => W cls d σ H3)
/-- C(..) -/
def tGk (C : Addr) (sp : Sp) (W : WX) (t : TA) : TE := fun σ H Q => t σ H fun vs H1 => ∀ x dx, H1 x = none → H1 dx = none → dx ≠ x →
  sp (.ref x :: vs) (upd (upd H1 dx (.own x)) x (.ins C dx [])) (fun v H2 => v = .non ∧ Q (.ref x) H2) (fun cls d H2 => W cls d σ H2)

section
variable {X : Cx} {k : Nat} {f C : Addr} {fd : FuncData} {ps : List Str} {sp : Sp} {W : WX} {x m : Str} {p pos apos : Pos} {e o : Expr} {es : List Expr} {ta : TE} {t : TA}

theorem runs {pins : List (Addr × Obj)} {σ : St} {H : Hp} {s : Shared} {Q : VK} {us : List Value} {vs : List V} (F : FnG X.prog X.w X.K X.mg X.base k f fd ps sp) (hr : RG k X.A) (hb : Binds X.K fd ps []) (tk : Takes X W)
    (I : Inv X pins σ H s) (r : Vals vs us) (h : sp vs H Q (fun cls d H2 => W cls d σ H2)) : wpAny (model X.prog X.w) X.A (call (.ref f) us) (EP X pins σ Q) X.xe s := by
  have ln : us.length = ps.length := r.length.symm.trans (F.nargs _ _ _ _ h)
  have b := hb s us I.kIn (by simpa using ln)
  rw [List.append_nil] at b
  refine wpAny_call (codeAny_mono (F.goes X.A X.stack s H ⟨us, []⟩ us vs Q _ hr I.env0 b r h) fun q s2 hq => ?_)
  match q, hq with
  | .error e, hq => exact passAt tk σ pins H s e s2 I hq
  | .ok (.ret u), hq => exact I.after hq
  | .ok .next, hq => exact hq.elim
  | .ok .brk, hq => exact hq.elim
  | .ok .cont, hq => exact hq.elim

theorem gc (c : Cal X.prog X.w X.K X.mg X.base k x sp) (hr : RG k X.A) (tk : Takes X W) (ha : PA X (e :: es) t) (hg : Gl X x := by rfl) (hdb : (x == ("__debug__" : Str)) = false := by decide)
    (he : starEach (e :: es) X.env = (false, eval e X.env) :: starEach es X.env := by rfl) (hpl : (backTo pos (starEach es X.env)).any (·.1) = false := by rfl) : PE X (.Call (.Name x p) (e :: es) [] pos) (tG sp W t) := by
  obtain ⟨f, fd, ps, F, hm, hk, hb⟩ := c.ex
  refine ⟨fun pins s σ H Q I h => wpAny_Call_Name_kw (ld_glob I hg hm ?_ hdb)⟩
  exact PySem.W.callWith_K (h₀ := X.base) I.ok.mod.kin hk (thn (ha.run pos pins s σ H _ I h) fun us s1 ⟨vs, H1, I1, r, q⟩ => ⟨I1.kIn, runs F hr hb tk I1 r q⟩) he hpl
theorem gc0 (c : Cal X.prog X.w X.K X.mg X.base k x sp) (hr : RG k X.A) (tk : Takes X W) (hg : Gl X x := by rfl) (hdb : (x == ("__debug__" : Str)) = false := by decide) : PE X (.Call (.Name x p) [] [] pos) (tG sp W tNil) := by
  obtain ⟨f, fd, ps, F, hm, hk, hb⟩ := c.ex
  exact ⟨fun pins s σ H Q I h => wpAny_Call_Name_kw (ld_glob I hg hm (PySem.W.callWith_K0 I.kIn hk (runs (us := []) F hr hb tk I .nil h)) hdb)⟩

theorem gm {pl : Sem Bool} (c : Met X.prog X.w X.K X.mg X.base k C m sp) (hr : RG k X.A) (tk : Takes X W) (he : PE X o ta) (ha : PA X (e :: es) t)
    (hst : starEach (e :: es) X.env = (false, eval e X.env) :: starEach es X.env := by rfl) (hpl : (backTo pos (starEach es X.env)).any (·.1) = false := by rfl)
    (ht : eval (.Call (.Attribute o m apos) (e :: es) [] pos) X.env = (do let ov ← eval o X.env; standAt apos.atName; let (f, first) ← holding [ov] (getMethod ov m pl); callWith pos f first (backTo pos (starEach (e :: es) X.env)) (backToKw pos (keywordEach [] X.env))) := by rfl) :
    PE X (.Call (.Attribute o m apos) (e :: es) [] pos) (tGm C m sp W ta t) := by
  obtain ⟨f, fd, ps, cl, hm, F, hb⟩ := c.ex
  refine ⟨fun pins s σ H Q I h => PySem.W.methodCall_KW (pl := pl) (thn (he.run pins s σ H _ I h) fun u s1 ⟨x, H1, I1, rx, a, dx, fs, ex, ea, l, q⟩ => ?_) ht⟩
  subst ex
  obtain rfl : u = Value.ref a := rx
  refine getmeth_ok I1 ea cl hm l (PySem.W.callWith_K (first := [.ref a]) (h₀ := X.base) I.ok.mod.kin hm.kp (thn (ha.run pos pins s1 σ H1 _ I1 q) fun us s2 ⟨vs, H2, I2, r, q2⟩ => ⟨I2.kIn, ?_⟩) hst hpl)
  exact runs (us := .ref a :: us) (vs := .ref a :: vs) F hr hb tk I2 (.cons rfl r) q2
theorem gm0 {pl : Sem Bool} (c : Met X.prog X.w X.K X.mg X.base k C m sp) (hr : RG k X.A) (tk : Takes X W) (he : PE X o ta)
    (ht : eval (.Call (.Attribute o m apos) [] [] pos) X.env = (do let ov ← eval o X.env; standAt apos.atName; let (f, first) ← holding [ov] (getMethod ov m pl); callWith pos f first (backTo pos (starEach [] X.env)) (backToKw pos (keywordEach [] X.env))) := by rfl) :
    PE X (.Call (.Attribute o m apos) [] [] pos) (tGm C m sp W ta tNil) := by
  obtain ⟨f, fd, ps, cl, hm, F, hb⟩ := c.ex
  refine ⟨fun pins s σ H Q I h => PySem.W.methodCall_KW (pl := pl) (thn (he.run pins s σ H _ I h) fun u s1 ⟨x, H1, I1, rx, a, dx, fs, ex, ea, l, q⟩ => ?_) ht⟩
  subst ex
  obtain rfl : u = Value.ref a := rx
  exact getmeth_ok I1 ea cl hm l (PySem.W.callWith_K0 (first := [.ref a]) I1.kIn hm.kp (runs (us := [.ref a]) (vs := [.ref a]) F hr hb tk I1 (.cons rfl .nil) q))

theorem makes {pins : List (Addr × Obj)} {σ : St} {H : Hp} {s : Shared} {Q : VK} {us : List Value} {vs : List V} (M : Mk X.K C f) (F : FnG X.prog X.w X.K X.mg X.base k f fd ps sp) (hr : RG (k + 1) X.A) (hb : Binds X.K fd ps []) (tk : Takes X W)
    (I : Inv X pins σ H s) (r : Vals vs us) (h : ∀ x dx, H x = none → H dx = none → dx ≠ x → sp (.ref x :: vs) (upd (upd H dx (.own x)) x (.ins C dx [])) (fun v H2 => v = .non ∧ Q (.ref x) H2) (fun cls d H2 => W cls d σ H2)) :
    wpAny (model X.prog X.w) X.A (call (.ref C) us) (EP X pins σ Q) X.xe s := by
  have hq := h (s.heap.objs.size + 1) s.heap.objs.size (I.hok.fresh (Nat.le_succ _)) (I.hok.fresh (Nat.le_refl _)) (Nat.ne_of_lt (Nat.lt_succ_self _))
  have I2 := Inv.made (C := C) I
  have r2 : Vals (V.ref (s.heap.objs.size + 1) :: vs) (Value.ref (s.heap.objs.size + 1) :: us) := .cons rfl r
  have ln : (Value.ref (s.heap.objs.size + 1) :: us).length = ps.length := r2.length.symm.trans (F.nargs _ _ _ _ hq)
  have b := hb _ (Value.ref (s.heap.objs.size + 1) :: us) I2.kIn (by simpa using ln)
  rw [List.append_nil] at b
  refine wpAny_call (make_map (f := f) I.kIn M.makes M.init (beq_iff_eq.mp M.fn) (codeAny_mono (F.goes _ X.stack _ _ ⟨Value.ref (s.heap.objs.size + 1) :: us, []⟩ (Value.ref (s.heap.objs.size + 1) :: us) _ _ _ ⟨hr.r.make C us [], make_guards.trans hr.g⟩ (I2.env0.make C us []) b r2 hq) fun q s2 hq2 => ?_))
  match q, hq2 with
  | .error e, hq2 => exact passAt tk σ pins _ _ e s2 I2 hq2
  | .ok (.ret u), hq2 =>
    obtain ⟨v, H3, I3, rv, ev, q3⟩ := I2.after hq2
    subst ev
    exact ⟨rv, ⟨V.ref (s.heap.objs.size + 1), H3, I3, rfl, q3⟩⟩
  | .ok .next, hq2 => exact hq2.elim
  | .ok .brk, hq2 => exact hq2.elim
  | .ok .cont, hq2 => exact hq2.elim
theorem gk (c : Mak X.prog X.w X.K X.mg X.base k x C sp) (hr : RG (k + 1) X.A) (tk : Takes X W) (ha : PA X (e :: es) t) (hg : Gl X x := by rfl) (hdb : (x == ("__debug__" : Str)) = false := by decide)
    (he : starEach (e :: es) X.env = (false, eval e X.env) :: starEach es X.env := by rfl) (hpl : (backTo pos (starEach es X.env)).any (·.1) = false := by rfl) : PE X (.Call (.Name x p) (e :: es) [] pos) (tGk C sp W t) := by
  obtain ⟨f, fd, ps, M, F, hm, hb⟩ := c.ex
  refine ⟨fun pins s σ H Q I h => wpAny_Call_Name_kw (ld_glob I hg hm ?_ hdb)⟩
  exact PySem.W.callWith_K (h₀ := X.base) I.ok.mod.kin M.kp (thn (ha.run pos pins s σ H _ I h) fun us s1 ⟨vs, H1, I1, r, q⟩ => ⟨I1.kIn, makes M F hr hb tk I1 r q⟩) he hpl
theorem gk0 (c : Mak X.prog X.w X.K X.mg X.base k x C sp) (hr : RG (k + 1) X.A) (tk : Takes X W) (hg : Gl X x := by rfl) (hdb : (x == ("__debug__" : Str)) = false := by decide) : PE X (.Call (.Name x p) [] [] pos) (tGk C sp W tNil) := by
  obtain ⟨f, fd, ps, M, F, hm, hb⟩ := c.ex
  exact ⟨fun pins s σ H Q I h => wpAny_Call_Name_kw (ld_glob I hg hm (PySem.W.callWith_K0 I.kIn M.kp (makes (us := []) M F hr hb tk I .nil h)) hdb)⟩
end

/-! ### repr -/
section
variable {X : Cx}
/-- repr(v), v data: its text -/
structure Shw (K : PySem.W.Frag) (H : Hp) (v : V) (d : PyData) : Prop where
  dp : Dp K H v d
  ok : d.showable = true
  len : d.shown.length ≤ sizeLine
  dep : d.depth ≤ 60
def rRepr (K : PySem.W.Frag) (vs : List V) (H : Hp) (Q : VK) : Prop := ∃ v d, vs = [v] ∧ Shw K H v d ∧ Q (.str d.shown) H
mutual
theorem dp_plain {K : PySem.W.Frag} {H : Hp} : ∀ (d : PyData) (v : V), Dp K H v d → d.hasDict = false
  | .none, _, _ => by simp only [PyData.hasDict]
  | .bool _, _, _ => by simp only [PyData.hasDict]
  | .int _, _, _ => by simp only [PyData.hasDict]
  | .str _, _, _ => by simp only [PyData.hasDict]
  | .list ds, _, h => by
    cases h with
    | lst _ a => simp only [PyData.hasDict]; exact dp_plains ds _ a
  | .tuple ds, _, h => by
    cases h with
    | tup _ a => simp only [PyData.hasDict]; exact dp_plains ds _ a
  | .dict _, _, h => by cases h
theorem dp_plains {K : PySem.W.Frag} {H : Hp} : ∀ (ds : List PyData) (vs : List V), DpAll K H vs ds → PyData.hasDictAll ds = false
  | [], _, _ => by simp only [PyData.hasDictAll]
  | d :: ds, _, h => by
    cases h with
    | cons a b => simp only [PyData.hasDictAll, dp_plain d _ a, dp_plains ds _ b, Bool.or_self]
end
theorem call_repr {k : Nat} (hr : RG k X.A) : CallR X (.builtin "repr") (rRepr X.K) := by
  intro pins s σ H xs us Q I r h
  obtain ⟨v, d, rfl, ⟨hd, hs, hl, hdp⟩, q⟩ := h
  obtain ⟨u, rfl, ru⟩ := vals1 r
  have un := hr.r.units
  cases hd with
  | non => cases ru; exact PySem.P.repr_of_none ⟨.str _, H, I.tok _, ⟨_, rfl⟩, by simpa only [PyData.shown] using q⟩
  | bl b => cases ru; exact PySem.P.repr_of_bool ⟨.str _, H, I.tok _, ⟨_, rfl⟩, by simpa only [PyData.shown] using q⟩
  | int i =>
    obtain ⟨t, rfl⟩ := ru
    exact PySem.P.repr_of_int (by simpa only [PyData.showable, decide_eq_true_eq] using hs) ⟨.str _, H, I.tok _, ⟨_, rfl⟩, by simpa only [PyData.shown] using q⟩
  | str x =>
    obtain ⟨t, rfl⟩ := ru
    exact PySem.P.repr_of_str ⟨.str _, H, I.tok _, ⟨_, rfl⟩, by simpa only [PyData.shown] using q⟩ (by simpa only [PyData.shown] using hl)
  | lst a b =>
    obtain rfl := ru
    have hd2 := Dp.lst a b
    obtain ⟨as, rd⟩ := Dp.reads I _ _ _ hd2 rfl
    exact repr_of_reads' rd hs (PyData.noDict_hsm (dp_plain _ _ hd2)) hr.g (by omega) (fun _ _ z => z) (fun h' u tk kp => ⟨.str _, H, I.kept kp, ⟨_, rfl⟩, q⟩) hl
  | tup a b =>
    obtain rfl := ru
    have hd2 := Dp.tup a b
    obtain ⟨as, rd⟩ := Dp.reads I _ _ _ hd2 rfl
    exact repr_of_reads' rd hs (PyData.noDict_hsm (dp_plain _ _ hd2)) hr.g (by omega) (fun _ _ z => z) (fun h' u tk kp => ⟨.str _, H, I.kept kp, ⟨_, rfl⟩, q⟩) hl
theorem pe_repr {k : Nat} {x : Str} {p pos : Pos} {e : Expr} {te : TE} (hr : RG k X.A) (hm : X.mg "repr" = none) (he : PE X e te) (hg : Gl X "repr" := by rfl)
    (hs : starEach (e :: []) X.env = (false, eval e X.env) :: starEach [] X.env := by rfl) (hpl : (backTo pos (starEach [] X.env)).any (·.1) = false := by rfl) :
    PE X (.Call (.Name "repr" p) [e] [] pos) (tCB (rRepr X.K) (tCons te tNil)) := pe_callB (call_repr hr) hg hm boot_repr (pa_cons he pa_nil hs) (by decide) (by decide) hs hpl
end
end FG

/-! GEnd: the end of a law whose def keeps its promise where the guards are known. -/
namespace FG
open PySem PySem.Spec L2
open PyProof.Rows hiding St

theorem law_runs {P : Program} {w : World} {K : PySem.W.Frag} {mg mb : Str → Option Value} {k : Nat} {fa a : Addr} {fd : FuncData} {x : Str} {sp : Sp} {s : Shared} {vs : List Value} {ns : List Int}
    (inK : K.In s.heap) (gl : s.heap.Ns mainGlobals mg) (bl : s.heap.Ns builtinsNs mb) (bb : ∀ y : Str, y ≠ "__name__" → mb y = bootBuiltins y) (nol : s.heap.NoLimit) (gens : s.gens = #[])
    (la : s.heap.get? a = some { cls := .type "list", data := .seq vs.toArray }) (li : IntsAre vs ns) (ln : ns.length ≤ sizeLine) (hr : Room k callerA)
    (F : ∀ base : Heap, K.In base → base.Ns mainGlobals mg → FnG P w K mg base k fa fd [x] sp) (bnd : ∀ (s : Shared) (u : Value), BindsTo s fd ⟨[u], []⟩ [(x, u)])
    (hsp : ∀ H : Hp, Only H → SqL K H a (ns.map V.int) → sp [.ref a] H (fun v _ => v = .bl true) fun _ _ _ => False) :
    codeAny (model P w) callerA (.call (.ref fa) ⟨[.ref a], []⟩) (fun r s' => r = .ok (.ret (.bool true)) ∧ OldK s.heap s'.heap ∧ s'.os = s.os ∧ AllBare s'.gens) s := by
  have rels := vals_ints li
  have lens := li.length
  have main : ∀ H : Hp, Only H → SqL K H a (ns.map V.int) → HOk P w H s.heap → (∀ b u, H b = some u → b = a) → (∀ u, H a = some u → K.lookup a = none) →
      codeAny (model P w) callerA (.call (.ref fa) ⟨[.ref a], []⟩) (fun r s' => r = .ok (.ret (.bool true)) ∧ OldK s.heap s'.heap ∧ s'.os = s.os ∧ AllBare s'.gens) s := by
    intro H only seq hok atA notK
    have noDict : ∀ {b : Addr} {o : Obj} {es : Array DictEntry} {ep : Nat}, s.heap.get? b = some o → o.data = .dict es ep → H b = none := by
      intro b o es ep e d
      cases q : H b with
      | none => rfl
      | some u =>
        obtain rfl := atA b u q
        rw [la] at e
        cases e
        cases (show Data.seq vs.toArray _ = Data.dict es ep from d)
    have ns2 : ∀ {b : Addr} {m : Str → Option Value}, s.heap.Ns b m → (hidT s.heap H).Ns b m := by
      rintro b m ⟨o, es, ep, e, d, r⟩
      exact ⟨o, es, ep, hidT_get e (noDict e d), d, r⟩
    have inK2 : K.In (hidT s.heap H) := by
      intro b o e
      refine hidT_get (inK b o e) ?_
      cases q : H b with
      | none => rfl
      | some u =>
        obtain rfl := atA b u q
        rw [notK u q] at e
        cases e
    have md : Mod K mg (hidT s.heap H) := by
      obtain ⟨mc, c1, c2⟩ := nol
      exact ⟨inK2, ns2 gl, ⟨mb, ns2 bl, bb⟩, mc, ns2 c1, c2⟩
    have env0 : Env0 P w K mg (hidT s.heap H) callerA [] s H :=
      ⟨rfl, md, fun b o e => of_hidT e, Nat.le_of_eq (hidT_size _ _), trivial, (fun b hb => by cases (show b ∈ ([] : List Addr) from hb)), hok, .of_eq gens⟩
    refine codeAny_mono ((F _ inK2 (ns2 gl)).goes callerA [] s H ⟨[.ref a], []⟩ [.ref a] [.ref a] _ _ ⟨hr, rfl⟩ env0 (bnd s (.ref a)) (.cons rfl .nil) (hsp H only seq)) fun r s2 hq => ?_
    match r, hq with
    | .error e, hq =>
      obtain ⟨_, _, _, _, _, _, _, _, _, _, _, _, z⟩ := hq
      exact z.elim
    | .ok .next, hq => exact hq.elim
    | .ok .brk, hq => exact hq.elim
    | .ok .cont, hq => exact hq.elim
    | .ok (.ret u), hq =>
      obtain ⟨v, H2, os, bare, un, hok2, rv, q⟩ := hq
      obtain rfl : v = .bl true := q
      obtain rfl : u = Value.bool true := rv
      refine ⟨rfl, OldK.of_keep fun b o e => ?_, os, bare⟩
      cases hb : H b with
      | none => exact un.keep b o e hb (fun z => by cases (show b ∈ ([] : List Addr) from z)) (fun z => by cases (show b ∈ ([] : List Addr) from z))
      | some y =>
        obtain z | ⟨ob, xs, z⟩ := only b
        · rw [hb] at z
          cases z
        · have e1 := (hok b _ z).1
          have e2 := (hok2 b _ (un.frzs b ob _ z)).1
          rw [e] at e1
          cases e1
          exact e2
  cases hk : K.lookup a with
  | some o =>
    have e := inK a o hk
    rw [la] at e
    cases e
    exact main (fun _ => none) (fun _ => .inl rfl) (.inr ⟨_, vs.toArray, _, hk, rfl, rfl, rfl, by rw [List.size_toArray, lens]; exact ln, by simpa using rels⟩) (fun b u z => by cases z) (fun b u z => by cases z) fun u z => by cases z
  | none =>
    let H1 : Hp := fun b => if b = a then some (.frz { cls := .type "list", data := .seq vs.toArray } (.lst (ns.map V.int))) else none
    have ha : H1 a = some (.frz { cls := .type "list", data := .seq vs.toArray } (.lst (ns.map V.int))) := if_pos rfl
    have hne : ∀ b, b ≠ a → H1 b = none := fun b hb => if_neg hb
    refine main H1 (fun b => ?_) (.inl (.inr ⟨_, ha⟩)) (fun b u z => ?_) (fun b u z => ?_) fun _ _ => hk
    · by_cases hb : b = a
      · subst hb
        exact .inr ⟨_, _, ha⟩
      · exact .inl (hne b hb)
    · by_cases hb : b = a
      · subst hb
        rw [ha] at z
        cases z
        exact ⟨la, by rw [List.length_map]; exact ln, vs, _, rels, la⟩
      · rw [hne b hb] at z
        cases z
    · by_cases hb : b = a
      · exact hb
      · rw [hne b hb] at z
        cases z

/-- the goal that a head by facts leaves -/
theorem walk_G {l : PySem.W.OpenLaw} {n k : Nat} {q : Program} {loose : List Str} {XP : (Str → Option Value) → Heap → Prop} {YP : World → Heap → Prop} {d : DefRec} {x : Str}
    (hn : l.most = some n) (hn2 : n ≤ sizeLine) (hdf : d.params.defaults = []) (hr : Room k callerA)
    (F : ∀ (w : World) (mg : Str → Option Value) (fa : Addr) (h : Heap), YP w h → h.Ns mainGlobals mg → mg d.name = some (.ref fa) →
      ∃ (K : PySem.W.Frag) (fd : FuncData) (sp : Sp), K.In h ∧ (∀ (s : Shared) (u : Value), BindsTo s fd ⟨[u], []⟩ [(x, u)]) ∧
        (∀ (H : Hp) (a : Addr) (ns : List Int), ns.length ≤ n → (∀ z ∈ ns, Builtin.Int.intBits z ≤ 1048576) → Only H → SqL K H a (ns.map V.int) → sp [.ref a] H (fun v _ => v = .bl true) fun _ _ _ => False) ∧
        ∀ base : Heap, K.In base → base.Ns mainGlobals mg → FnG l.prog w K mg base k fa fd [x] sp) :
    PySem.W.WalkO q loose XP YP l.row.toRowW d [] (fun f vs => PySem.call f vs) := by
  refine Att.attach_callB hn hdf fun w s₀ s₁ mg mb fa o pm cd doc a vs ns G Y ho hd hcd hmg hobj hints hlen bits gens => ?_
  obtain ⟨K, fd, sp, inK, hb, hsp, hF⟩ := F w mg fa _ Y G.T.g hmg
  exact law_runs inK G.T.g G.T.b G.T.builtins G.T.nolimit gens hobj hints (Nat.le_trans hlen hn2) hr hF hb fun H hO hS => hsp H a ns hlen bits hO hS

section
variable {P : Program} {w : World} {K : PySem.W.Frag} {mg : Str → Option Value} {base : Heap} {k : Nat} {x m q : Str} {st : Stmt} {f C : Addr} {ps : List Str} {sp : Sp}
theorem Cal.of (g : mg x = some (.ref f)) (F : ∃ fd, Fun K x q st f fd) (b : ∀ {fd}, Fun K x q st f fd → Binds K fd ps []) (h : ∀ {fd}, Fun K x q st f fd → FnG P w K mg base k f fd ps sp) : Cal P w K mg base k x sp :=
  let ⟨fd, z⟩ := F; ⟨f, fd, ps, h z, g, z.kp, b z⟩
theorem Met.of (c : Cls K C) (mt : Meth K C m f) (F : ∃ fd, Fun K x q st f fd) (b : ∀ {fd}, Fun K x q st f fd → Binds K fd ps []) (h : ∀ {fd}, Fun K x q st f fd → FnG P w K mg base k f fd ps sp) : Met P w K mg base k C m sp :=
  let ⟨fd, z⟩ := F; ⟨f, fd, ps, c, mt, h z, b z⟩
theorem Mak.of (M : Mk K C f) (g : mg m = some (.ref C)) (F : ∃ fd, Fun K x q st f fd) (b : ∀ {fd}, Fun K x q st f fd → Binds K fd ps []) (h : ∀ {fd}, Fun K x q st f fd → FnG P w K mg base k f fd ps sp) : Mak P w K mg base k m C sp :=
  let ⟨fd, z⟩ := F; ⟨f, fd, ps, M, h z, g, b z⟩
end
/-- a def without defaults as a Fun -/
theorem toFun {K : PySem.W.Frag} {x qual : Str} {st : Stmt} {f : Addr} {fd : FuncData} (F : FunD K x qual (defArgs st) (defBody st) (defScope st) [] [] f fd) : Fun K x qual st f fd := by
  obtain ⟨oc, od, dV, kV, doc, pm, an, cdv, ct, osl, rfl, lk, cd, dv, _⟩ := F.ex
  rcases dv with ⟨_, rfl⟩ | ⟨z, _⟩
  · exact ⟨⟨oc, od, kV, doc, pm, an, cdv, ct, osl, rfl, lk, cd⟩, F.kp⟩
  · exact absurd rfl z
end FG

/-! GK: the layer's rules, their readings told over a named written part (so that they can stand within a comprehension). -/
namespace FG
open PySem PySem.Spec L2
open PyProof.Rows hiding St
section
variable {X : Cx} {e o a b : Expr} {es : List Expr} {f name : Str} {pos apos cpos p p2 p3 : Pos} {ta te tb to : TE} {t : TA} {T id : String} {r : V → List V → Hp → VK → Prop}
theorem kfld (K : PySem.W.Frag) (he : PE X e ta) (hb : attributeBase e f X.env (eval e X.env) = eval e X.env := by rfl) (hK : X.K = K := by rfl) : PE X (.Attribute e f pos) (tFld K ta f) := by subst hK; exact pe_fld he hb
theorem kixL (K : PySem.W.Frag) (hK : X.K = K := by rfl) : IxR X (rIxL K) := by subst hK; exact ix_list
theorem kixT (K : PySem.W.Frag) (hK : X.K = K := by rfl) : IxR X (rIxT K) := by subst hK; exact ix_tup
theorem kslL (K : PySem.W.Frag) (hK : X.K = K := by rfl) : SlR X (rSlL K) := by subst hK; exact sl_list
theorem kslT (K : PySem.W.Frag) (hK : X.K = K := by rfl) : SlR X (rSlT K) := by subst hK; exact sl_tup
theorem kin (K : PySem.W.Frag) (hK : X.K = K := by rfl) : OpR X (compareOp .In) (rIn K false) := by subst hK; exact op_in_seq
theorem knotIn (K : PySem.W.Frag) (hK : X.K = K := by rfl) : OpR X (compareOp .NotIn) (rIn K true) := by subst hK; exact op_notIn_seq
theorem keqD (K : PySem.W.Frag) (hu : X.A.units + 64 < cLine) (hK : X.K = K := by rfl) : OpR X (compareOp .Eq) (rEqD K) := by subst hK; exact op_eqD hu
theorem kneD (K : PySem.W.Frag) (hu : X.A.units + 64 < cLine) (hK : X.K = K := by rfl) : OpR X (compareOp .NotEq) (rNeD K) := by subst hK; exact op_neD hu
theorem kcatT (K : PySem.W.Frag) (hK : X.K = K := by rfl) : OpR X (binaryOp .Add) (rCatT K) := by subst hK; exact op_catT
def rLenS (K : PySem.W.Frag) (xs : List V) (H : Hp) (Q : VK) : Prop := ∃ p ys, xs = [.ref p] ∧ (SqL K H p ys ∨ SqT K H p ys) ∧ Q (.int ys.length) H
theorem klen (K : PySem.W.Frag) (hK : X.K = K := by rfl) : CallR X (.builtin "len") (rLenS K) := by subst hK; exact call_len_seq
def rListOf (K : PySem.W.Frag) (xs : List V) (H : Hp) (Q : VK) : Prop := ∃ p ys, xs = [.ref p] ∧ (SqL K H p ys ∨ SqT K H p ys) ∧ ∀ l, H l = none → Q (.ref l) (upd H l (.lst ys))
theorem klist (K : PySem.W.Frag) (hK : X.K = K := by rfl) : CallR X (.type "list") (rListOf K) := by subst hK; exact call_list_of
def rTupOf (K : PySem.W.Frag) (xs : List V) (H : Hp) (Q : VK) : Prop := ∃ p ys, xs = [.ref p] ∧ ((SqL K H p ys ∧ ∀ l, H l = none → Q (.ref l) (upd H l (.tup ys))) ∨ (SqT K H p ys ∧ Q (.ref p) H))
theorem ktuple (K : PySem.W.Frag) (hK : X.K = K := by rfl) : CallR X (.type "tuple") (rTupOf K) := by subst hK; exact call_tuple_of
theorem ksum (K : PySem.W.Frag) (hc : X.calm = true := by rfl) (hK : X.K = K := by rfl) : CallR X (.builtin "sum") (rSum K) := by subst hK; exact cr_sum hc
theorem kmax (K : PySem.W.Frag) (hc : X.calm = true := by rfl) (hK : X.K = K := by rfl) : CallR X (.builtin "max") (rMax K) := by subst hK; exact cr_max hc
theorem kmin (K : PySem.W.Frag) (hc : X.calm = true := by rfl) (hK : X.K = K := by rfl) : CallR X (.builtin "min") (rMin K) := by subst hK; exact cr_min hc
theorem kany (K : PySem.W.Frag) (hc : X.calm = true := by rfl) (hK : X.K = K := by rfl) : CallR X (.builtin "any") (rAny K) := by subst hK; exact cr_any hc
theorem kall (K : PySem.W.Frag) (hc : X.calm = true := by rfl) (hK : X.K = K := by rfl) : CallR X (.builtin "all") (rAll K) := by subst hK; exact cr_all hc
theorem kisi (K : PySem.W.Frag) (hK : X.K = K := by rfl) : CallR X (.builtin "isinstance") (rIsi K) := by subst hK; exact call_isi
theorem kbm0 (K : PySem.W.Frag) (pa : PlainAttrs T) (slot : Slot T name id) (hty : typeOf (.builtin id) = pure (.type "method_descriptor")) (hm : MtR X id r) (ho : PE X o to)
    (hbase : attributeBase o name X.env (eval o X.env) = eval o X.env := by rfl) (hline : (apos.endLine == cpos.line) = true := by rfl) (hK : X.K = K := by rfl) : PE X (.Call (.Attribute o name apos) [] [] cpos) (tBM0 K T r to) := by
  subst hK; exact pe_bm0 pa slot hty hm ho hbase hline
theorem kbm (K : PySem.W.Frag) (pa : PlainAttrs T) (slot : Slot T name id) (hty : typeOf (.builtin id) = pure (.type "method_descriptor")) (hm : MtR X id r) (ho : PE X o to) (ha : PA X (e :: es) t)
    (hbase : attributeBase o name X.env (eval o X.env) = eval o X.env := by rfl)
    (hfew : ((backTo cpos (starEach (e :: es) X.env)).all (fun x => !x.1) && (backToKw cpos (keywordEach [] X.env)).all (fun x => x.1.isSome) && decide ((e :: es).length + ([] : List Keyword).length + (if ([] : List Keyword).isEmpty then 0 else 1) < 30)) = true := by rfl)
    (hline : (apos.endLine == cpos.line) = true := by rfl) (hs : starEach (e :: es) X.env = (false, eval e X.env) :: starEach es X.env := by rfl) (hpl : (backTo cpos (starEach es X.env)).any (·.1) = false := by rfl) (hK : X.K = K := by rfl) :
    PE X (.Call (.Attribute o name apos) (e :: es) [] cpos) (tBM K T r to t) := by
  subst hK; exact pe_bm pa slot hty hm ho ha hbase hfew hline hs hpl
theorem krevL (K : PySem.W.Frag) {k : Nat} {p1 : Pos} (he : PE X e te) (hK : X.K = K := by rfl) : PE X (.Subscript e (.Slice none none (some (.UnaryOp .USub (.Constant (.int 1) k p1) p2)) p3) pos) (tRevL K te) := by subst hK; exact pe_revL he
theorem kiL (K : PySem.W.Frag) {tg : Expr} (he : PE X e te) (hK : X.K = K := by rfl) : PI X tg e (iList K te) := by subst hK; exact pi_list he
theorem kiT (K : PySem.W.Frag) {tg : Expr} (he : PE X e te) (hK : X.K = K := by rfl) : PI X tg e (iTup K te) := by subst hK; exact pi_tup he
theorem kiRev (K : PySem.W.Frag) {tg : Expr} (hg : Gl X "reversed") (hm : X.mg "reversed" = none) (ha : PA X [e] t) (hs : starEach [e] X.env = [(false, eval e X.env)] := by rfl) (hK : X.K = K := by rfl) :
    PI X tg (.Call (.Name "reversed" p) [e] [] pos) (iRev K t) := by subst hK; exact pi_reversed hg hm ha hs
theorem kgT (K : PySem.W.Frag) {k n : Nat} {tgs : TGs} (hc : X.calm = true) (h : PGs X es tgs) (hn : (assignEach es X.env).length = n := by rfl) (hst : (assignEach es X.env).findIdx? (·.1) = none := by rfl) (hK : X.K = K := by rfl) :
    PG X (.Tuple es k pos) (gTup K n tgs) := by subst hK; exact pg_tup hc h hn hst
def tTru (K : PySem.W.Frag) (te : TE) : TT := fun σ H Q => te σ H fun x H1 => ∃ k, TruV K x H1 k ∧ Q k H1
theorem ktru (K : PySem.W.Frag) (ha : PE X a ta) (he : ∀ whole, isTrue a X.env whole = (do let v ← whole; standAt a.pos; holding [v] (truthy v)) := by intro _; rfl) (hK : X.K = K := by rfl) : PT X a (tTru K ta) := by subst hK; exact pt_truth ha he
theorem krepr (K : PySem.W.Frag) {k : Nat} (hr : RG k X.A) (hm : X.mg "repr" = none) (he : PE X e te) (hg : Gl X "repr" := by rfl)
    (hs : starEach (e :: []) X.env = (false, eval e X.env) :: starEach [] X.env := by rfl) (hpl : (backTo pos (starEach [] X.env)).any (·.1) = false := by rfl) (hK : X.K = K := by rfl) :
    PE X (.Call (.Name "repr" p) [e] [] pos) (tCB (rRepr K) (tCons te tNil)) := by subst hK; exact pe_callB (call_repr hr) hg hm boot_repr (pa_cons he pa_nil hs) (by decide) (by decide) hs hpl
theorem ksFld (K : PySem.W.Frag) {p' : Pos} {v : Expr} {tv : TE} (ha : PE X o to) (hv : PE X v tv) (hs : swapsWith v (some (.Attribute o f p')) pos.line X.env = pure false := by rfl) (hK : X.K = K := by rfl) : PS X (.Assign [.Attribute o f p'] v pos) (sFld K to tv f) := by subst hK; exact ps_fld ha hv hs
/-- xs == [] -/
def rEqE (K : PySem.W.Frag) : R2 := fun x y H Q => ∃ a b xs, x = .ref a ∧ y = .ref b ∧ SqL K H a xs ∧ SqL K H b [] ∧ Q (.bl xs.isEmpty) H
theorem keqE (K : PySem.W.Frag) (hu : X.A.units + 64 < cLine) (hK : X.K = K := by rfl) : OpR X (compareOp .Eq) (rEqE K) := by
  subst hK
  intro pins s σ H x y v u Q I rx ry h
  obtain ⟨a, b, xs, rfl, rfl, ha, hb, q⟩ := h
  cases (show v = Value.ref a from rx)
  cases (show u = Value.ref b from ry)
  obtain ⟨us, r1, p1, _⟩ := I.list ha
  obtain ⟨ws, r2, p2, _⟩ := I.list hb
  cases r2
  cases r1 with
  | nil => exact SeqAt.RcAt.lists (e := fun _ => true) p1.isList p2.isList rfl (by omega) (fun j h1 _ => absurd h1 (Nat.not_lt_zero j)) _ _ _ _ ⟨.bl true, H, I, rfl, q⟩
  | cons c d => exact SeqAt.RcAt.lists_lengths p1.isList p2.isList (by simp) (by omega) _ _ _ _ ⟨.bl false, H, I, rfl, q⟩
end
end FG

/-! GRepr: the texts of small data fit. -/
namespace FG
open PySem PySem.Spec L2
open PyProof.Rows hiding St
mutual
/-- numbers of at most 38 figures, signs below 16 ^ 8 -/
def okD : PyData → Bool
  | .none | .bool _ => true
  | .int i => decide (i.natAbs < 10 ^ 38)
  | .str x => x.cps.toList.all fun c => c < 16 ^ 8
  | .list xs | .tuple xs => okDs xs
  | .dict _ => false
def okDs : List PyData → Bool
  | [] => true
  | x :: xs => okD x && okDs xs
end
theorem int_short {i : Int} (h : i.natAbs < 10 ^ 38) : (PyData.shown (.int i)).length ≤ 40 := by
  have h1 := int_text_length_le10 (a := i) (k := 38) (by decide) h
  have h2 : (PyData.shown (.int i)).length = (toString i).length := by
    show (Str.ofString (toString i)).length = _
    rw [PySem.ofString_length]
  omega
theorem log_small {i : Int} (h : i.natAbs < 10 ^ 38) : i.natAbs.log2 < 1920 := log2_small (Nat.lt_trans h (by decide +kernel))
mutual
theorem okD_leaves : ∀ d : PyData, okD d = true → d.leavesShort 40 = true ∧ d.showable = true
  | .none, _ => ⟨by simp only [PyData.leavesShort], by simp only [PyData.showable]⟩
  | .bool _, _ => ⟨by simp only [PyData.leavesShort], by simp only [PyData.showable]⟩
  | .int i, h => by
    have h2 : i.natAbs < 10 ^ 38 := by simpa only [okD, decide_eq_true_eq] using h
    exact ⟨by simp only [PyData.leavesShort, decide_eq_true_eq]; exact int_short h2, by simp only [PyData.showable, decide_eq_true_eq]; exact log_small h2⟩
  | .str x, h => ⟨by simpa only [okD, PyData.leavesShort] using h, by simp only [PyData.showable]⟩
  | .list xs, h => by
    have z := okDs_leaves xs (by simpa only [okD] using h)
    exact ⟨by simp only [PyData.leavesShort]; exact z.1, by simp only [PyData.showable]; exact z.2⟩
  | .tuple xs, h => by
    have z := okDs_leaves xs (by simpa only [okD] using h)
    exact ⟨by simp only [PyData.leavesShort]; exact z.1, by simp only [PyData.showable]; exact z.2⟩
  | .dict _, h => by simp [okD] at h
theorem okDs_leaves : ∀ ds : List PyData, okDs ds = true → PyData.leavesShortAll 40 ds = true ∧ PyData.showableAll ds = true
  | [], _ => ⟨by simp only [PyData.leavesShortAll], by simp only [PyData.showableAll]⟩
  | d :: ds, h => by
    have h2 : okD d = true ∧ okDs ds = true := by simpa only [okDs, Bool.and_eq_true] using h
    have a := okD_leaves d h2.1
    have b := okDs_leaves ds h2.2
    exact ⟨by simp only [PyData.leavesShortAll, a.1, b.1, Bool.and_self], by simp only [PyData.showableAll, a.2, b.2, Bool.and_self]⟩
end
theorem shw_at {K : PySem.W.Frag} {v : V} {d : PyData} {H : Hp} (hd : Dp K H v d) (ok : okD d = true) (hb : d.bulk ≤ 300000) (hdep : d.depth ≤ 60) : Shw K H v d := by
  obtain ⟨h1, h2⟩ := okD_leaves d ok
  refine ⟨hd, h2, ?_, hdep⟩
  have := PyData.shown_le_bulk 40 (by decide) d h1
  rw [sizeLine_eq]
  omega
theorem okDs_of {ds : List PyData} (h : ∀ d ∈ ds, okD d = true) : okDs ds = true := by
  induction ds with
  | nil => simp only [okDs]
  | cons d ds ih =>
    simp only [okDs, Bool.and_eq_true]
    exact ⟨h d (by simp), ih fun x hx => h x (by simp [hx])⟩
theorem bulk_flat {ds : List PyData} (h : ∀ d ∈ ds, d.bulk = 0) : PyData.bulkAll ds = ds.length := by
  induction ds with
  | nil => simp only [PyData.bulkAll, List.length_nil]
  | cons d ds ih =>
    simp only [PyData.bulkAll, List.length_cons]
    rw [h d (by simp), ih fun x hx => h x (by simp [hx])]; omega
theorem depth_flat {ds : List PyData} (h : ∀ d ∈ ds, d.depth = 0) : PyData.depthAll ds = 0 := by
  induction ds with
  | nil => simp only [PyData.depthAll]
  | cons d ds ih =>
    simp only [PyData.depthAll]
    rw [h d (by simp), ih fun x hx => h x (by simp [hx])]; rfl
theorem shw_int {K : PySem.W.Frag} {i : Int} {H : Hp} (h : i.natAbs < 10 ^ 38) : Shw K H (.int i) (.int i) :=
  shw_at (.int i) (by simp only [okD, decide_eq_true_eq]; exact h) (by simp only [PyData.bulk]; omega) (by simp only [PyData.depth]; omega)
theorem shw_small {K : PySem.W.Frag} {i : Int} {H : Hp} (h : i.natAbs < 1000000000000) : Shw K H (.int i) (.int i) := shw_int (Nat.lt_trans h (by decide))
theorem shw_bool {K : PySem.W.Frag} {b : Bool} {H : Hp} : Shw K H (.bl b) (.bool b) :=
  shw_at (.bl b) (by simp only [okD]) (by simp only [PyData.bulk]; omega) (by simp only [PyData.depth]; omega)
theorem shw_none {K : PySem.W.Frag} {H : Hp} : Shw K H .non .none :=
  shw_at .non (by simp only [okD]) (by simp only [PyData.bulk]; omega) (by simp only [PyData.depth]; omega)
end FG

/-! short tactics of our own, local to this text -/
local macro_rules | `(tactic| walk_at "ne") => `(tactic| first | assumption | (apply Ne.symm; assumption) | grind)
local macro_rules | `(tactic| walk_at "hl") => `(tactic| first | assumption | exact L2.upd_same | exact (L2.upd_ne (by walk_at "ne")).trans (by walk_at "hl"))
local macro_rules | `(tactic| walk_at "c") => `(tactic| first | omega | (refine ⟨?_, ?_⟩ <;> omega) | (refine ⟨?_, ?_, ?_⟩ <;> omega) | decide)
/-- one step of a reading -/
local macro_rules | `(tactic| walk_at "r1") => `(tactic| first
  | refine ⟨_, rfl, ?_⟩
  | refine ⟨_, _, rfl, rfl, ?_⟩
  | refine ⟨_, _, _, _, rfl, rfl, SqL.of (by walk_at "hl"), rfl, ?_⟩
  | refine ⟨_, _, rfl, .inl (SqL.of (by walk_at "hl")), ?_⟩
  | refine ⟨_, _, rfl, rfl, (by walk_at "c"), ?_⟩
  | refine ⟨_, _, rfl, rfl, .inl (by walk_at "c"), ?_⟩)
local macro_rules | `(tactic| walk_at "rd") => `(tactic| repeat walk_at "r1")
namespace Lw
open PySem PySem.Spec L2 FG
open PyProof.Rows hiding St
def top (i : Nat) : Stmt := PySem.Challenge.pw_framerooms_k01_numbers_names_and_pairs.main.body.getD i (.Pass ⟨0, 0, 0, 0⟩)
abbrev s_is_number : Stmt := top 3
abbrev s_is_whole : Stmt := top 4
abbrev s_is_name : Stmt := top 5
abbrev s_is_pair : Stmt := top 6
abbrev s__law_cell : Stmt := top 8
abbrev s__law_box : Stmt := top 9
abbrev s__law_take : Stmt := top 10
abbrev s__law_page : Stmt := top 11
abbrev s__law_bounds : Stmt := top 12
abbrev s__law_text : Stmt := top 13
abbrev s__law_other : Stmt := top 14
abbrev s__law_row : Stmt := top 15
abbrev s__law_things : Stmt := top 16
abbrev s__law_is_number : Stmt := top 17
abbrev s__law_is_name : Stmt := top 18
abbrev s__law_is_pair : Stmt := top 19
abbrev s__law_right : Stmt := top 20
abbrev s_law : Stmt := top 21
theorem sc_is_number : FnScope ["thing"] ["thing"] (defScope s_is_number) := ⟨rfl, rfl, rfl, by decide +kernel, rfl, by decide +kernel, by decide +kernel⟩
theorem sc_is_whole : FnScope ["thing", "low", "high"] ["thing", "low", "high"] (defScope s_is_whole) := ⟨rfl, rfl, rfl, by decide +kernel, rfl, by decide +kernel, by decide +kernel⟩
theorem sc_is_name : FnScope ["thing", "sign"] ["thing"] (defScope s_is_name) := ⟨rfl, rfl, rfl, by decide +kernel, rfl, by decide +kernel, by decide +kernel⟩
theorem sc_is_pair : FnScope ["thing", "one"] ["thing"] (defScope s_is_pair) := ⟨rfl, rfl, rfl, by decide +kernel, rfl, by decide +kernel, by decide +kernel⟩
theorem sc__law_cell : FnScope ["_law_script", "_law_k"] ["_law_script", "_law_k"] (defScope s__law_cell) := ⟨rfl, rfl, rfl, by decide +kernel, rfl, by decide +kernel, by decide +kernel⟩
theorem sc__law_box : FnScope ["_law_cell_here"] ["_law_cell_here"] (defScope s__law_box) := ⟨rfl, rfl, rfl, by decide +kernel, rfl, by decide +kernel, by decide +kernel⟩
theorem sc__law_take : FnScope ["_law_box_here", "_law_many", "_law_digit", "_law_one", "_law_other_here"] ["_law_box_here", "_law_many"] (defScope s__law_take) := ⟨rfl, rfl, rfl, by decide +kernel, rfl, by decide +kernel, by decide +kernel⟩
theorem sc__law_page : FnScope ["_law_page_here"] [] (defScope s__law_page) := ⟨rfl, rfl, rfl, by decide +kernel, rfl, by decide +kernel, by decide +kernel⟩
theorem sc__law_bounds : FnScope ["_law_box_here", "_law_way", "_law_wide", "_law_low"] ["_law_box_here"] (defScope s__law_bounds) := ⟨rfl, rfl, rfl, by decide +kernel, rfl, by decide +kernel, by decide +kernel⟩
theorem sc__law_text : FnScope ["_law_box_here", "_law_spoilt", "_law_wild", "_law_size", "_law_text_here", "_law_signs", "_law_k", "_law_at", "_law_sign"] ["_law_box_here"] (defScope s__law_text) := ⟨rfl, rfl, rfl, by decide +kernel, rfl, by decide +kernel, by decide +kernel⟩
theorem sc__law_other : FnScope ["_law_box_here", "_law_some"] ["_law_box_here"] (defScope s__law_other) := ⟨rfl, rfl, rfl, by decide +kernel, rfl, by decide +kernel, by decide +kernel⟩
theorem sc__law_row : FnScope ["_law_box_here", "_law_spoilt", "_law_many", "_law_row_here", "_law_k", "_law_way", "_law_at"] ["_law_box_here"] (defScope s__law_row) := ⟨rfl, rfl, rfl, by decide +kernel, rfl, by decide +kernel, by decide +kernel⟩
theorem sc__law_things : FnScope ["_law_box_here", "_law_bounds_here", "_law_low", "_law_high", "_law_near"] ["_law_box_here", "_law_bounds_here"] (defScope s__law_things) := ⟨rfl, rfl, rfl, by decide +kernel, rfl, by decide +kernel, by decide +kernel⟩
theorem sc__law_is_number : FnScope ["_law_thing"] ["_law_thing"] (defScope s__law_is_number) := ⟨rfl, rfl, rfl, by decide +kernel, rfl, by decide +kernel, by decide +kernel⟩
theorem sc__law_is_name : FnScope ["_law_thing", "_law_sign"] ["_law_thing"] (defScope s__law_is_name) := ⟨rfl, rfl, rfl, by decide +kernel, rfl, by decide +kernel, by decide +kernel⟩
theorem sc__law_is_pair : FnScope ["_law_thing", "_law_one"] ["_law_thing"] (defScope s__law_is_pair) := ⟨rfl, rfl, rfl, by decide +kernel, rfl, by decide +kernel, by decide +kernel⟩
theorem sc__law_right : FnScope ["_law_bounds_here", "_law_thing", "_law_low", "_law_high", "_law_due", "_law_turn"] ["_law_bounds_here", "_law_thing"] (defScope s__law_right) := ⟨rfl, rfl, rfl, by decide +kernel, rfl, by decide +kernel, by decide +kernel⟩
theorem sc_law : FnScope ["_law_script", "_law_k", "_law_box_here", "_law_bounds_here", "_law_thing"] ["_law_script"] (defScope s_law) := ⟨rfl, rfl, rfl, by decide +kernel, rfl, by decide +kernel, by decide +kernel⟩
structure Tx (K : PySem.W.Frag) (mg : Str → Option Value) : Prop where
  g_is_number : mg "is_number" = some (.ref (He.ga K "is_number"))
  g_is_whole : mg "is_whole" = some (.ref (He.ga K "is_whole"))
  g_is_name : mg "is_name" = some (.ref (He.ga K "is_name"))
  g_is_pair : mg "is_pair" = some (.ref (He.ga K "is_pair"))
  g__law_cell : mg "_law_cell" = some (.ref (He.ga K "_law_cell"))
  g__law_box : mg "_law_box" = some (.ref (He.ga K "_law_box"))
  g__law_take : mg "_law_take" = some (.ref (He.ga K "_law_take"))
  g__law_page : mg "_law_page" = some (.ref (He.ga K "_law_page"))
  g__law_bounds : mg "_law_bounds" = some (.ref (He.ga K "_law_bounds"))
  g__law_text : mg "_law_text" = some (.ref (He.ga K "_law_text"))
  g__law_other : mg "_law_other" = some (.ref (He.ga K "_law_other"))
  g__law_row : mg "_law_row" = some (.ref (He.ga K "_law_row"))
  g__law_things : mg "_law_things" = some (.ref (He.ga K "_law_things"))
  g__law_is_number : mg "_law_is_number" = some (.ref (He.ga K "_law_is_number"))
  g__law_is_name : mg "_law_is_name" = some (.ref (He.ga K "_law_is_name"))
  g__law_is_pair : mg "_law_is_pair" = some (.ref (He.ga K "_law_is_pair"))
  g__law_right : mg "_law_right" = some (.ref (He.ga K "_law_right"))
  g_law : mg "law" = some (.ref (He.ga K "law"))
  z_len : mg "len" = none
  z_range : mg "range" = none
  z_repr : mg "repr" = none
  z_isinstance : mg "isinstance" = none
  z_int : mg "int" = none
  z_str : mg "str" = none
  z_tuple : mg "tuple" = none
  z_bool : mg "bool" = none
  z_max : mg "max" = none
  z_min : mg "min" = none
  z_all : mg "all" = none
  i_LETTERS : ∃ t, mg "LETTERS" = some (.str "abcdefghijklmnopqrstuvwxyz" t)
  i_LONGEST : ∃ t, mg "LONGEST" = some (.int 6 t)
  F_is_number : ∃ fd, Fun K "is_number" "is_number" s_is_number (He.ga K "is_number") fd
  F_is_whole : ∃ fd, Fun K "is_whole" "is_whole" s_is_whole (He.ga K "is_whole") fd
  F_is_name : ∃ fd, Fun K "is_name" "is_name" s_is_name (He.ga K "is_name") fd
  F_is_pair : ∃ fd, Fun K "is_pair" "is_pair" s_is_pair (He.ga K "is_pair") fd
  F__law_cell : ∃ fd, Fun K "_law_cell" "_law_cell" s__law_cell (He.ga K "_law_cell") fd
  F__law_box : ∃ fd, Fun K "_law_box" "_law_box" s__law_box (He.ga K "_law_box") fd
  F__law_take : ∃ fd, Fun K "_law_take" "_law_take" s__law_take (He.ga K "_law_take") fd
  F__law_page : ∃ fd, Fun K "_law_page" "_law_page" s__law_page (He.ga K "_law_page") fd
  F__law_bounds : ∃ fd, Fun K "_law_bounds" "_law_bounds" s__law_bounds (He.ga K "_law_bounds") fd
  F__law_text : ∃ fd, Fun K "_law_text" "_law_text" s__law_text (He.ga K "_law_text") fd
  F__law_other : ∃ fd, Fun K "_law_other" "_law_other" s__law_other (He.ga K "_law_other") fd
  F__law_row : ∃ fd, Fun K "_law_row" "_law_row" s__law_row (He.ga K "_law_row") fd
  F__law_things : ∃ fd, Fun K "_law_things" "_law_things" s__law_things (He.ga K "_law_things") fd
  F__law_is_number : ∃ fd, Fun K "_law_is_number" "_law_is_number" s__law_is_number (He.ga K "_law_is_number") fd
  F__law_is_name : ∃ fd, Fun K "_law_is_name" "_law_is_name" s__law_is_name (He.ga K "_law_is_name") fd
  F__law_is_pair : ∃ fd, Fun K "_law_is_pair" "_law_is_pair" s__law_is_pair (He.ga K "_law_is_pair") fd
  F__law_right : ∃ fd, Fun K "_law_right" "_law_right" s__law_right (He.ga K "_law_right") fd
  F_law : ∃ fd, Fun K "law" "law" s_law (He.ga K "law") fd
def d_is_number : He.DefD := ⟨("is_number", none), "is_number", "is_number", defArgs s_is_number, defBody s_is_number, defScope s_is_number, [], []⟩
def d_is_whole : He.DefD := ⟨("is_whole", none), "is_whole", "is_whole", defArgs s_is_whole, defBody s_is_whole, defScope s_is_whole, [], []⟩
def d_is_name : He.DefD := ⟨("is_name", none), "is_name", "is_name", defArgs s_is_name, defBody s_is_name, defScope s_is_name, [], []⟩
def d_is_pair : He.DefD := ⟨("is_pair", none), "is_pair", "is_pair", defArgs s_is_pair, defBody s_is_pair, defScope s_is_pair, [], []⟩
def d__law_cell : He.DefD := ⟨("_law_cell", none), "_law_cell", "_law_cell", defArgs s__law_cell, defBody s__law_cell, defScope s__law_cell, [], []⟩
def d__law_box : He.DefD := ⟨("_law_box", none), "_law_box", "_law_box", defArgs s__law_box, defBody s__law_box, defScope s__law_box, [], []⟩
def d__law_take : He.DefD := ⟨("_law_take", none), "_law_take", "_law_take", defArgs s__law_take, defBody s__law_take, defScope s__law_take, [], []⟩
def d__law_page : He.DefD := ⟨("_law_page", none), "_law_page", "_law_page", defArgs s__law_page, defBody s__law_page, defScope s__law_page, [], []⟩
def d__law_bounds : He.DefD := ⟨("_law_bounds", none), "_law_bounds", "_law_bounds", defArgs s__law_bounds, defBody s__law_bounds, defScope s__law_bounds, [], []⟩
def d__law_text : He.DefD := ⟨("_law_text", none), "_law_text", "_law_text", defArgs s__law_text, defBody s__law_text, defScope s__law_text, [], []⟩
def d__law_other : He.DefD := ⟨("_law_other", none), "_law_other", "_law_other", defArgs s__law_other, defBody s__law_other, defScope s__law_other, [], []⟩
def d__law_row : He.DefD := ⟨("_law_row", none), "_law_row", "_law_row", defArgs s__law_row, defBody s__law_row, defScope s__law_row, [], []⟩
def d__law_things : He.DefD := ⟨("_law_things", none), "_law_things", "_law_things", defArgs s__law_things, defBody s__law_things, defScope s__law_things, [], []⟩
def d__law_is_number : He.DefD := ⟨("_law_is_number", none), "_law_is_number", "_law_is_number", defArgs s__law_is_number, defBody s__law_is_number, defScope s__law_is_number, [], []⟩
def d__law_is_name : He.DefD := ⟨("_law_is_name", none), "_law_is_name", "_law_is_name", defArgs s__law_is_name, defBody s__law_is_name, defScope s__law_is_name, [], []⟩
def d__law_is_pair : He.DefD := ⟨("_law_is_pair", none), "_law_is_pair", "_law_is_pair", defArgs s__law_is_pair, defBody s__law_is_pair, defScope s__law_is_pair, [], []⟩
def d__law_right : He.DefD := ⟨("_law_right", none), "_law_right", "_law_right", defArgs s__law_right, defBody s__law_right, defScope s__law_right, [], []⟩
def d_law : He.DefD := ⟨("law", none), "law", "law", defArgs s_law, defBody s_law, defScope s_law, [], []⟩
def fnL : List He.DefD := [d_is_number, d_is_whole, d_is_name, d_is_pair, d__law_cell, d__law_box, d__law_take, d__law_page, d__law_bounds, d__law_text, d__law_other, d__law_row, d__law_things, d__law_is_number, d__law_is_name, d__law_is_pair, d__law_right, d_law]
def faL : List He.Fa := [.glo "is_number", .glo "is_whole", .glo "is_name", .glo "is_pair", .glo "_law_cell", .glo "_law_box", .glo "_law_take", .glo "_law_page", .glo "_law_bounds", .glo "_law_text", .glo "_law_other", .glo "_law_row", .glo "_law_things", .glo "_law_is_number", .glo "_law_is_name", .glo "_law_is_pair", .glo "_law_right", .glo "law", .free "len", .free "range", .free "repr", .free "isinstance", .free "int", .free "str", .free "tuple", .free "bool", .free "max", .free "min", .free "all", .str "LETTERS" "abcdefghijklmnopqrstuvwxyz", .int "LONGEST" 6]
theorem tx_of {K : PySem.W.Frag} {h : Heap} {mg : Str → Option Value} (X : K.In h) (G : h.Ns mainGlobals mg) (c : He.SaysD faL fnL K) : Tx K mg := ⟨
(He.glo_ok X G (c.fact 0 (f := .glo "is_number") rfl)),
  (He.glo_ok X G (c.fact 1 (f := .glo "is_whole") rfl)),
  (He.glo_ok X G (c.fact 2 (f := .glo "is_name") rfl)),
  (He.glo_ok X G (c.fact 3 (f := .glo "is_pair") rfl)),
  (He.glo_ok X G (c.fact 4 (f := .glo "_law_cell") rfl)),
  (He.glo_ok X G (c.fact 5 (f := .glo "_law_box") rfl)),
  (He.glo_ok X G (c.fact 6 (f := .glo "_law_take") rfl)),
  (He.glo_ok X G (c.fact 7 (f := .glo "_law_page") rfl)),
  (He.glo_ok X G (c.fact 8 (f := .glo "_law_bounds") rfl)),
  (He.glo_ok X G (c.fact 9 (f := .glo "_law_text") rfl)),
  (He.glo_ok X G (c.fact 10 (f := .glo "_law_other") rfl)),
  (He.glo_ok X G (c.fact 11 (f := .glo "_law_row") rfl)),
  (He.glo_ok X G (c.fact 12 (f := .glo "_law_things") rfl)),
  (He.glo_ok X G (c.fact 13 (f := .glo "_law_is_number") rfl)),
  (He.glo_ok X G (c.fact 14 (f := .glo "_law_is_name") rfl)),
  (He.glo_ok X G (c.fact 15 (f := .glo "_law_is_pair") rfl)),
  (He.glo_ok X G (c.fact 16 (f := .glo "_law_right") rfl)),
  (He.glo_ok X G (c.fact 17 (f := .glo "law") rfl)),
  (He.free_ok X G (c.fact 18 (f := .free "len") rfl)),
  (He.free_ok X G (c.fact 19 (f := .free "range") rfl)),
  (He.free_ok X G (c.fact 20 (f := .free "repr") rfl)),
  (He.free_ok X G (c.fact 21 (f := .free "isinstance") rfl)),
  (He.free_ok X G (c.fact 22 (f := .free "int") rfl)),
  (He.free_ok X G (c.fact 23 (f := .free "str") rfl)),
  (He.free_ok X G (c.fact 24 (f := .free "tuple") rfl)),
  (He.free_ok X G (c.fact 25 (f := .free "bool") rfl)),
  (He.free_ok X G (c.fact 26 (f := .free "max") rfl)),
  (He.free_ok X G (c.fact 27 (f := .free "min") rfl)),
  (He.free_ok X G (c.fact 28 (f := .free "all") rfl)),
  (He.str_ok X G (c.fact 29 (f := .str "LETTERS" "abcdefghijklmnopqrstuvwxyz") rfl)),
  (He.int_ok X G (c.fact 30 (f := .int "LONGEST" 6) rfl)),
  (let ⟨fd, h⟩ := c.def_ 0 (d := d_is_number) rfl; ⟨fd, FG.toFun (st := s_is_number) h⟩),
  (let ⟨fd, h⟩ := c.def_ 1 (d := d_is_whole) rfl; ⟨fd, FG.toFun (st := s_is_whole) h⟩),
  (let ⟨fd, h⟩ := c.def_ 2 (d := d_is_name) rfl; ⟨fd, FG.toFun (st := s_is_name) h⟩),
  (let ⟨fd, h⟩ := c.def_ 3 (d := d_is_pair) rfl; ⟨fd, FG.toFun (st := s_is_pair) h⟩),
  (let ⟨fd, h⟩ := c.def_ 4 (d := d__law_cell) rfl; ⟨fd, FG.toFun (st := s__law_cell) h⟩),
  (let ⟨fd, h⟩ := c.def_ 5 (d := d__law_box) rfl; ⟨fd, FG.toFun (st := s__law_box) h⟩),
  (let ⟨fd, h⟩ := c.def_ 6 (d := d__law_take) rfl; ⟨fd, FG.toFun (st := s__law_take) h⟩),
  (let ⟨fd, h⟩ := c.def_ 7 (d := d__law_page) rfl; ⟨fd, FG.toFun (st := s__law_page) h⟩),
  (let ⟨fd, h⟩ := c.def_ 8 (d := d__law_bounds) rfl; ⟨fd, FG.toFun (st := s__law_bounds) h⟩),
  (let ⟨fd, h⟩ := c.def_ 9 (d := d__law_text) rfl; ⟨fd, FG.toFun (st := s__law_text) h⟩),
  (let ⟨fd, h⟩ := c.def_ 10 (d := d__law_other) rfl; ⟨fd, FG.toFun (st := s__law_other) h⟩),
  (let ⟨fd, h⟩ := c.def_ 11 (d := d__law_row) rfl; ⟨fd, FG.toFun (st := s__law_row) h⟩),
  (let ⟨fd, h⟩ := c.def_ 12 (d := d__law_things) rfl; ⟨fd, FG.toFun (st := s__law_things) h⟩),
  (let ⟨fd, h⟩ := c.def_ 13 (d := d__law_is_number) rfl; ⟨fd, FG.toFun (st := s__law_is_number) h⟩),
  (let ⟨fd, h⟩ := c.def_ 14 (d := d__law_is_name) rfl; ⟨fd, FG.toFun (st := s__law_is_name) h⟩),
  (let ⟨fd, h⟩ := c.def_ 15 (d := d__law_is_pair) rfl; ⟨fd, FG.toFun (st := s__law_is_pair) h⟩),
  (let ⟨fd, h⟩ := c.def_ 16 (d := d__law_right) rfl; ⟨fd, FG.toFun (st := s__law_right) h⟩),
  (let ⟨fd, h⟩ := c.def_ 17 (d := d_law) rfl; ⟨fd, FG.toFun (st := s_law) h⟩)⟩
end Lw
namespace Lw
open PySem PySem.Spec L2 FG
open PyProof.Rows hiding St
def names0 : List PySem.Str := ["__name__", "LETTERS", "LONGEST", "is_number", "is_whole", "is_name", "is_pair", "_law_cell", "_law_box", "_law_take", "_law_page", "_law_bounds", "_law_text", "_law_other", "_law_row", "_law_things", "_law_is_number", "_law_is_name", "_law_is_pair", "_law_right"]
abbrev Rw : PySem.W.OpenRow := PySem.W.OpenLaw.row PySem.Challenge.rw_framerooms_k01_numbers_names_and_pairs
abbrev hk : PySem.W.Hook := He.hookD 6 faL fnL
def ob (s : PySem.W.SharedT) : He.AlD := He.obsDG 6 faL fnL (HandSHeadRun.getT s)
theorem ob_eq (s : PySem.W.SharedT) : ob s = hk.obs s.abs := He.obsDG_eq (HandSHeadRun.getT_eq s)
theorem run (w : World) : HandSHeadRun.RunEq Rw (PySem.W.view Rw.prog [21]) hk ob 4500 (names0) w := by
  intro os
  kernel_rfl

end Lw
namespace Lw
open PySem PySem.Spec L2 FG
open PyProof.Rows hiding St
/-! ### the law's draws: a cell, a box, a take -/
/-- at b a box that has been asked at most n times behind its digits -/
def BoxAt (H : Hp) (b : Addr) (n : Int) : Prop := ∃ x y c : Int, H b = some (.lst [.int x, .int y, .int c]) ∧ 0 ≤ x ∧ 0 ≤ y ∧ y < 2147483629 ∧ 0 ≤ c ∧ c ≤ n
/-- all but b is as it was -/
def But (b : Addr) (H H' : Hp) : Prop := ∀ a, a ≠ b → H' a = H a
def spCell (K : PySem.W.Frag) : Sp := fun vs H Q _ => ∃ (a : Addr) (ns : List Int) (k : Nat), vs = [.ref a, .int k] ∧ SqL K H a (ns.map V.int) ∧ ∀ z : Int, Q (.int z) H
def spBox : Sp := fun vs H Q _ => ∃ z : Int, vs = [.int z] ∧ ∀ b H', H b = none → But b H H' → BoxAt H' b 0 → Q (.ref b) H'
def spTake : Sp := fun vs H Q _ => ∃ (b : Addr) (n m : Int), vs = [.ref b, .int m] ∧ BoxAt H b n ∧ n < 1000000000 ∧ 0 < m ∧ m < 2 ^ 60 ∧
  ∀ H' (d : Int), But b H H' → BoxAt H' b (n + 1) → 0 ≤ d → d < m → Q (.int d) H'
section
variable {P : Program} {w : World} {K : PySem.W.Frag} {mg : Str → Option Value} {base : Heap}
theorem ok_cell (T : Tx K mg) {fd : FuncData} (F : Fun K "_law_cell" "_law_cell" s__law_cell (He.ga K "_law_cell") fd) : FnG P w K mg base 1 (He.ga K "_law_cell") fd ["_law_script", "_law_k"] (spCell K) := by
  refine FnG.of F sc__law_cell (fun vs H Q E h => ?_) (fun cdv A outer s H vs Q E hr h => ?_)
  · obtain ⟨a, ns, k, rfl, _⟩ := h; rfl
  · obtain ⟨a, ns, k, rfl, hS, q⟩ := h
    refine ⟨_, pss_cons (ps_if (pt_cmpR op_lt (pv 1) (pe_callB (klen K) (by rfl) T.z_len PySem.boot_len (pa_cons (pv 0) (pa_nil))) (by first | exact nomark _ | rfl)) (pss_one (ps_ret (pe_ix (kixL K) (pv 0) (pv 1) (fun _ _ => rfl)))) (pss_nil))
      (pss_one (ps_ret (pe_op op_add (pe_op op_mul (pe_int) (pv 1)) (pe_int)))), ?_⟩
    refine ⟨_, rfl, _, rfl, a, _, rfl, .inl hS, _, _, rfl, rfl, _, rfl, ?_⟩
    refine ite2 (fun hlt => ?_) (fun hge => ?_)
    · have hk : k < ns.length := by simpa using hlt
      refine ⟨_, rfl, _, rfl, a, _, _, .int ns[k], rfl, rfl, hS, ?_, q _⟩
      exact atI_nat (by rw [List.getElem?_map, List.getElem?_eq_getElem hk]; rfl)
    · refine ⟨_, rfl, _, _, rfl, rfl, .inl ⟨by decide, by decide⟩, _, _, rfl, rfl, q _⟩
theorem ok_box (T : Tx K mg) {fd : FuncData} (F : Fun K "_law_box" "_law_box" s__law_box (He.ga K "_law_box") fd) : FnG P w K mg base 1 (He.ga K "_law_box") fd ["_law_cell_here"] spBox := by
  refine FnG.of F sc__law_box (fun vs H Q E h => ?_) (fun cdv A outer s H vs Q E hr h => ?_)
  · obtain ⟨z, rfl, _⟩ := h; rfl
  · obtain ⟨z, rfl, q⟩ := h
    refine ⟨_, pss_one (ps_ret (pe_lst (pa_cons (pe_callB (call_max2 rfl) (by rfl) T.z_max (by decide +kernel) (pa_cons (pe_int) (pa_cons (pe_op op_sub (pv 0) (pe_op op_pow (pe_int) (pe_int))) (pa_nil)))) (pa_cons (pe_op op_mod (pv 0) (pe_int)) (pa_cons (pe_int) (pa_nil)))))), ?_⟩
    refine ⟨_, rfl, _, _, rfl, rfl, ⟨by decide, by decide, by decide⟩, _, _, rfl, rfl, _, _, rfl, ?_⟩
    refine ⟨_, rfl, _, _, rfl, rfl, (by show (0 : Int) < 2147483629; decide), (by show 3 ≤ sizeLine; decide), fun b hb => q b _ hb (fun a ha => upd_ne ha) ⟨_, _, _, upd_same, ?_, ?_, ?_, by decide, by decide⟩⟩
    · split <;> omega
    · exact Int.emod_nonneg _ (by decide)
    · exact Int.emod_lt_of_pos _ (by decide)
theorem ok_take (T : Tx K mg) {fd : FuncData} (F : Fun K "_law_take" "_law_take" s__law_take (He.ga K "_law_take") fd) : FnG P w K mg base 1 (He.ga K "_law_take") fd ["_law_box_here", "_law_many"] spTake := by
  refine FnG.of F sc__law_take (fun vs H Q E h => ?_) (fun cdv A outer s H vs Q E hr h => ?_)
  · obtain ⟨b, n, m, rfl, _⟩ := h; rfl
  · obtain ⟨b, n, m, rfl, ⟨x, y, c, hb, hx, hy, hy2, hc, hcn⟩, hn, hm, hm2, q⟩ := h
    refine ⟨_, pss_cons (ps_if (pt_cmpR op_gt (pe_ix (kixL K) (pv 0) (pe_int) (fun _ _ => rfl)) (pe_int) (by first | exact nomark _ | rfl)) (pss_cons (ps_set (i := 2) sc__law_take.nd rfl (by first | exact Or.inl rfl | exact Or.inr rfl) (pe_op op_mod (pe_ix (kixL K) (pv 0) (pe_int) (fun _ _ => rfl)) (pv 1)))
      (pss_cons (ps_asg (pe_op op_fdivW (pe_ix (kixL K) (pv 0) (pe_int) (fun _ _ => rfl)) (pv 1)) (pg_sub (pv 0) (pe_int) set_list))
      (pss_one (ps_ret (pv 2))))) (pss_nil))
      (pss_cons (ps_asg (pe_op op_add (pe_ix (kixL K) (pv 0) (pe_int) (fun _ _ => rfl)) (pe_int)) (pg_sub (pv 0) (pe_int) set_list))
      (pss_cons (ps_set (i := 3) sc__law_take.nd rfl (by first | exact Or.inl rfl | exact Or.inr rfl) (pe_op op_mod (pe_op op_pow (pe_op op_add (pe_op op_add (pe_ix (kixL K) (pv 0) (pe_int) (fun _ _ => rfl)) (pe_op op_mul (pe_int) (pe_ix (kixL K) (pv 0) (pe_int) (fun _ _ => rfl)))) (pe_int)) (pe_int)) (pe_int)))
      (pss_cons (ps_set (i := 4) sc__law_take.nd rfl (by first | exact Or.inl rfl | exact Or.inr rfl) (pe_op op_mod (pe_op op_pow (pe_op op_add (pe_op op_add (pe_op op_fdiv (pv 3) (pe_int)) (pe_op op_mul (pe_int) (pe_ix (kixL K) (pv 0) (pe_int) (fun _ _ => rfl)))) (pe_int)) (pe_int)) (pe_int)))
      (pss_one (ps_ret (pe_op op_mod (pe_op op_add (pe_op op_fdiv (pv 3) (pe_int)) (pe_op op_mul (pe_int) (pe_op op_fdiv (pv 4) (pe_int)))) (pv 1))))))), ?_⟩
    refine ⟨_, rfl, _, _, _, _, rfl, rfl, SqL.of hb, rfl, _, _, rfl, rfl, _, rfl, ?_⟩
    refine ite2 (fun h0 => ?_) (fun h0 => ?_)
    · refine ⟨_, rfl, _, _, _, _, rfl, rfl, SqL.of hb, rfl, _, rfl, _, _, rfl, rfl, hm, ?_⟩
      refine ⟨_, rfl, _, _, _, _, rfl, rfl, SqL.of hb, rfl, _, rfl, _, _, rfl, rfl, wide_div hm (b := 60) (by omega) (by decide) (by decide), ?_⟩
      refine ⟨_, rfl, _, _, _, 0, rfl, rfl, hb, rfl, ?_⟩
      refine ⟨_, rfl, q _ _ (fun a ha => upd_ne ha) ⟨_, _, _, upd_same, Int.ediv_nonneg hx (by omega), hy, hy2, hc, by omega⟩ (Int.emod_nonneg _ (by omega)) (Int.emod_lt_of_pos _ hm)⟩
    · have e : x = 0 := by
        have z : ¬ (0 < x) := by simpa using h0
        omega
      subst e
      -- box[2] = box[2] + 1
      refine ⟨_, rfl, _, _, _, _, rfl, rfl, SqL.of hb, rfl, _, _, rfl, rfl, _, rfl, _, _, _, 2, rfl, rfl, hb, rfl, ?_⟩
      have hb2 : (upd H b (.lst [.int 0, .int y, .int (c + 1)])) b = some (.lst [.int 0, .int y, .int (c + 1)]) := upd_same
      refine ⟨_, rfl, _, _, _, _, rfl, rfl, SqL.of hb2, rfl, _, rfl, _, _, _, _, rfl, rfl, SqL.of hb2, rfl, _, _, rfl, rfl, .inl ⟨by decide, by decide⟩, _, _, rfl, rfl, _, _, rfl, rfl, _, _, rfl, rfl, ⟨by decide, by decide, ?_⟩, _, _, rfl, rfl, (by show (0 : Int) < 2147483647; decide), ?_⟩
      · show (y + 7919 * (c + 1) + 29).natAbs < 2 ^ 64
        omega
      obtain ⟨u, h1⟩ : ∃ u, u = (y + 7919 * (c + 1) + 29) ^ Int.toNat 5 % 2147483647 := ⟨_, rfl⟩
      have u0 : 0 ≤ u := h1 ▸ Int.emod_nonneg _ (by decide)
      have u1 : u < 2147483647 := h1 ▸ Int.emod_lt_of_pos _ (by decide)
      refine ⟨_, rfl, _, _, rfl, rfl, ⟨by decide, by decide⟩, _, rfl, _, _, _, _, rfl, rfl, SqL.of hb2, rfl, _, _, rfl, rfl, .inl ⟨by decide, by decide⟩, _, _, rfl, rfl, _, _, rfl, rfl, _, _, rfl, rfl, ⟨by decide, by decide, ?_⟩, _, _, rfl, rfl, (by show (0 : Int) < 2147483629; decide), ?_⟩
      · show ((y + 7919 * (c + 1) + 29) ^ Int.toNat 5 % 2147483647 / 8 + 104729 * (c + 1) + 3).natAbs < 2 ^ 64
        rw [← h1]
        omega
      refine ⟨_, rfl, _, _, rfl, rfl, ⟨by decide, by decide⟩, _, rfl, _, _, rfl, rfl, ⟨by decide, by decide⟩, _, _, rfl, rfl, .inl ⟨by decide, by decide⟩, _, _, rfl, rfl, _, rfl, _, _, rfl, rfl, hm, ?_⟩
      exact q _ _ (fun a ha => upd_ne ha) ⟨_, _, _, hb2, Int.le_refl 0, hy, hy2, by omega, by omega⟩ (Int.emod_nonneg _ (by omega)) (Int.emod_lt_of_pos _ hm)
end

end Lw
namespace Lw
open PySem PySem.Spec L2 FG
open PyProof.Rows hiding St
/-! ### frames as plain lists: hs the frames straight around, ts those that were ended to take them -/
def enc : Option Int → V
  | none => .non
  | some i => .int i
def nint (n : Nat) : V := .int (n : Int)
/-- the numbers that stand, rising -/
def stand (ts : List (Option Int)) : List Nat := (List.range ts.length).filter fun i => decide (ts[i]? = some none)
/-- the row from the ground -/
def rowW (hs : List (Option Int)) (i : Nat) : List Nat := match hs[i]? with
  | some (some j) => if j.toNat < i then rowW hs j.toNat ++ [i] else [i]
  | _ => [i]
termination_by i
/-- all that end with f, falling -/
def fin (hs ts : List (Option Int)) (f : Nat) : List Nat := (stand ts).reverse.filter fun k => decide (f ∈ rowW hs k)
/-- taken by f -/
def taken (ts : List (Option Int)) (ks : List Nat) (f : Nat) : List (Option Int) := ks.foldl (fun t k => t.set k (some (f : Int))) ts
structure Wf (hs ts : List (Option Int)) : Prop where
  len : ts.length = hs.length
  pos : 0 < hs.length
  small : hs.length ≤ 101
  root : hs[0]? = some none
  up : ∀ i, 0 < i → i < hs.length → ∃ j : Nat, hs[i]? = some (some (j : Int)) ∧ j < i
theorem wf0 : Wf [none] [none] := ⟨rfl, by decide, by decide, rfl, fun i h1 h2 => by simp at h2; omega⟩
theorem taken_len (ks : List Nat) (f : Nat) : ∀ ts, (taken ts ks f).length = ts.length := by
  induction ks with
  | nil => intro ts; rfl
  | cons k ks ih => intro ts; exact (ih _).trans (List.length_set)
theorem Wf.taken {hs ts : List (Option Int)} (w : Wf hs ts) (ks : List Nat) (f : Nat) : Wf hs (Lw.taken ts ks f) := ⟨(taken_len ks f ts).trans w.len, w.pos, w.small, w.root, w.up⟩
theorem Wf.begun {hs ts : List (Option Int)} (w : Wf hs ts) {f : Nat} (hf : f < hs.length) (h100 : hs.length ≤ 100) : Wf (hs ++ [some (f : Int)]) (ts ++ [none]) := by
  refine ⟨by simp [w.len], by simp, by simp; omega, ?_, fun i h0 h1 => ?_⟩
  · rw [List.getElem?_append_left w.pos]; exact w.root
  · by_cases h : i < hs.length
    · rw [List.getElem?_append_left h]; exact w.up i h0 h
    · have e : i = hs.length := by simp at h1; omega
      subst e
      exact ⟨f, by simp, hf⟩
theorem row_root {hs ts : List (Option Int)} (w : Wf hs ts) : rowW hs 0 = [0] := by rw [rowW, w.root]
theorem row_up {hs : List (Option Int)} {i j : Nat} (h : hs[i]? = some (some (j : Int))) (hj : j < i) : rowW hs i = rowW hs j ++ [i] := by
  rw [rowW, h]
  show (if (j : Int).toNat < i then rowW hs (j : Int).toNat ++ [i] else [i]) = _
  rw [Int.toNat_natCast, if_pos hj]
theorem row_len {hs ts : List (Option Int)} (w : Wf hs ts) : ∀ n i, i < n → i < hs.length → (rowW hs i).length ≤ i + 1 := by
  intro n
  induction n with
  | zero => intro i h; omega
  | succ n ih =>
    intro i h hi
    by_cases h0 : i = 0
    · subst h0; rw [row_root w]; simp
    · obtain ⟨j, e, hj⟩ := w.up i (by omega) hi
      rw [row_up e hj, List.length_append]
      have := ih j (by omega) (by omega)
      simp; omega
theorem row_lt {hs ts : List (Option Int)} (w : Wf hs ts) : ∀ n i, i < n → i < hs.length → ∀ k ∈ rowW hs i, k ≤ i := by
  intro n
  induction n with
  | zero => intro i h; omega
  | succ n ih =>
    intro i h hi k hk
    by_cases h0 : i = 0
    · subst h0; rw [row_root w] at hk; simp at hk; omega
    · obtain ⟨j, e, hj⟩ := w.up i (by omega) hi
      rw [row_up e hj] at hk
      rcases List.mem_append.mp hk with hk | hk
      · have := ih j (by omega) (by omega) k hk; omega
      · simp at hk; omega
theorem mem_stand {ts : List (Option Int)} {i : Nat} : i ∈ stand ts ↔ ts[i]? = some none := by
  unfold stand
  rw [List.mem_filter, List.mem_range]
  constructor
  · rintro ⟨_, h⟩; exact of_decide_eq_true h
  · intro h
    exact ⟨(List.getElem?_eq_some_iff.mp h).1, decide_eq_true h⟩
theorem stand_len (ts : List (Option Int)) : (stand ts).length ≤ ts.length := by
  unfold stand
  exact Nat.le_trans (List.length_filter_le _ _) (by simp)
theorem fin_stand {hs ts : List (Option Int)} {f k : Nat} (h : k ∈ fin hs ts f) : ts[k]? = some none := by
  unfold fin at h
  rw [List.mem_filter, List.mem_reverse] at h
  exact mem_stand.mp h.1
theorem fin_len (hs ts : List (Option Int)) (f : Nat) : (fin hs ts f).length ≤ ts.length := by
  unfold fin
  refine Nat.le_trans (List.length_filter_le _ _) ?_
  rw [List.length_reverse]; exact stand_len ts
theorem filter_more {α : Type} (p : α → Bool) {xs : List α} {i : Nat} {x : α} (h : xs[i]? = some x) : (xs.take (i + 1)).filter p = (xs.take i).filter p ++ (if p x = true then [x] else []) := by
  obtain ⟨hi, e⟩ := List.getElem?_eq_some_iff.mp h
  rw [List.take_succ_eq_append_getElem hi, List.filter_append, e]
  congr 1
  by_cases hp : p x = true
  · simp [hp]
  · simp [hp]
theorem sel_yes {α : Type} (f : α → V) (p : α → Bool) {xs : List α} {i : Nat} {x : α} (h : xs[i]? = some x) (hp : p x = true) : ((xs.take (i + 1)).filter p).map f = ((xs.take i).filter p).map f ++ [f x] := by
  rw [filter_more p h, hp]; simp
theorem sel_no {α : Type} (f : α → V) (p : α → Bool) {xs : List α} {i : Nat} {x : α} (h : xs[i]? = some x) (hp : p x = false) : ((xs.take (i + 1)).filter p).map f = ((xs.take i).filter p).map f := by
  rw [filter_more p h, hp]; simp
theorem foldl_more {α β : Type} (g : β → α → β) {xs : List α} {i : Nat} {x : α} {b : β} (h : xs[i]? = some x) : (xs.take (i + 1)).foldl g b = g ((xs.take i).foldl g b) x := by
  obtain ⟨hi, e⟩ := List.getElem?_eq_some_iff.mp h
  rw [List.take_succ_eq_append_getElem hi, List.foldl_append, e]; rfl
theorem inV_nint (f : Nat) (xs : List Nat) : inV (.int (f : Int)) (xs.map nint) = decide (f ∈ xs) := by
  unfold inV
  rw [Bool.eq_iff_iff, List.any_eq_true, decide_eq_true_eq]
  constructor
  · rintro ⟨y, hy, e⟩
    obtain ⟨n, hn, rfl⟩ := List.mem_map.mp hy
    have e2 : ((n : Int) == (f : Int)) = true := e
    have : n = f := by have := eq_of_beq e2; omega
    subst this; exact hn
  · intro h
    exact ⟨nint f, List.mem_map.mpr ⟨f, h, rfl⟩, by show ((f : Int) == (f : Int)) = true; simp⟩
theorem flat_nint (xs : List Nat) : (xs.map nint).all flatV = true := by
  rw [List.all_eq_true]; rintro y hy; obtain ⟨n, _, rfl⟩ := List.mem_map.mp hy; rfl
theorem dp_enc (K : PySem.W.Frag) (H : Hp) : ∀ xs : List (Option Int), DpAll K H (xs.map enc) (xs.map fun o => match o with | none => PyData.none | some i => PyData.int i)
  | [] => .nil
  | none :: xs => .cons .non (dp_enc K H xs)
  | some i :: xs => .cons (.int i) (dp_enc K H xs)
theorem dp_nint (K : PySem.W.Frag) (H : Hp) : ∀ xs : List Nat, DpAll K H (xs.map nint) (xs.map fun n : Nat => PyData.int (n : Int))
  | [] => .nil
  | n :: xs => .cons (.int (n : Int)) (dp_nint K H xs)
/-- all but the objects of S is as it was -/
def Kp (S : List Addr) (H H' : Hp) : Prop := ∀ b o, H b = some o → b ∉ S → H' b = some o
theorem Kp.refl {S : List Addr} {H : Hp} : Kp S H H := fun _ _ e _ => e
theorem Kp.trans {S : List Addr} {H H1 H2 : Hp} (a : Kp S H H1) (b : Kp S H1 H2) : Kp S H H2 := fun c o e h => b c o (a c o e h) h
theorem Kp.at {S : List Addr} {H H' : Hp} (k : Kp S H H') {b : Addr} {o : HO} (e : H b = some o) (h : b ∉ S) : H' b = some o := k b o e h
theorem Kp.free {H H' : Hp} (k : Kp [] H H') {b : Addr} (e : H' b = none) : H b = none := by
  cases q : H b with
  | none => rfl
  | some o => rw [k b o q (by simp)] at e; cases e

end Lw
namespace Lw
open PySem PySem.Spec L2 FG
open PyProof.Rows hiding St
/-! what is kept -/
theorem But.kp {b : Addr} {H H' : Hp} (k : But b H H') : Kp [b] H H' := fun a o e h => (k a (by simpa using h)).trans e
theorem Kp.mono {S S' : List Addr} {H H' : Hp} (k : Kp S H H') (h : ∀ a ∈ S, a ∈ S') : Kp S' H H' := fun b o e n => k b o e fun z => n (h b z)
theorem BoxAt.kp {S : List Addr} {H H' : Hp} {b : Addr} {n : Int} (x : BoxAt H b n) (k : Kp S H H') (h : b ∉ S) : BoxAt H' b n := by
  obtain ⟨x, y, c, e, r⟩ := x
  exact ⟨x, y, c, k _ _ e h, r⟩
theorem BoxAt.more {H : Hp} {b : Addr} {n m : Int} (x : BoxAt H b n) (h : n ≤ m) : BoxAt H b m := by
  obtain ⟨x, y, c, e, a1, a2, a3, a4, a5⟩ := x
  exact ⟨x, y, c, e, a1, a2, a3, a4, by omega⟩
theorem Kp.new {S : List Addr} {H H1 : Hp} {a : Addr} {o : HO} (k : Kp S H H1) (h : H1 a = none) : Kp S H (L2.upd H1 a o) := fun b ob e n => (upd_ne (ne_of_none (k b ob e n) h)).trans (k b ob e n)
theorem BoxAt.new {H : Hp} {b a : Addr} {n : Int} {o : HO} (x : BoxAt H b n) (h : H a = none) : BoxAt (L2.upd H a o) b n := x.kp (S := []) (Kp.refl.new h) (by simp)
/-- the script: locked, or an object of the module -/
def Scr (K : PySem.W.Frag) (H : Hp) (a : Addr) (ns : List Int) : Prop := (∃ o, H a = some (.frz o (.lst (ns.map V.int)))) ∨ ∀ H', SqL K H' a (ns.map V.int)
theorem Scr.sq {K : PySem.W.Frag} {H : Hp} {a : Addr} {ns : List Int} (x : Scr K H a ns) : SqL K H a (ns.map V.int) := by
  rcases x with ⟨o, z⟩ | z
  · exact .inl (.inr ⟨o, z⟩)
  · exact z H
theorem Scr.of {K : PySem.W.Frag} {H : Hp} {a : Addr} {ns : List Int} (hO : Only H) (h : SqL K H a (ns.map V.int)) : Scr K H a ns := by
  rcases h with (z | ⟨o, z⟩) | z
  · rcases hO a with y | ⟨o, xs, y⟩
    · rw [y] at z; cases z
    · rw [y] at z; cases z
  · exact .inl ⟨o, z⟩
  · exact .inr fun H' => .inr z
theorem Scr.kp {K : PySem.W.Frag} {S : List Addr} {H H' : Hp} {a : Addr} {ns : List Int} (x : Scr K H a ns) (k : Kp S H H') (hS : ∀ b ∈ S, ∀ o u, H b ≠ some (.frz o u)) : Scr K H' a ns := by
  rcases x with ⟨o, z⟩ | z
  · exact .inl ⟨o, k a _ z fun c => hS a c _ _ z⟩
  · exact .inr z
theorem Scr.kp0 {K : PySem.W.Frag} {H H' : Hp} {a : Addr} {ns : List Int} (x : Scr K H a ns) (k : Kp [] H H') : Scr K H' a ns := x.kp k fun _ z => by cases z
theorem BoxAt.nf {H : Hp} {b : Addr} {n : Int} (x : BoxAt H b n) : ∀ c ∈ [b], ∀ o u, H c ≠ some (.frz o u) := by
  obtain ⟨_, _, _, e, _⟩ := x
  intro c hc o u h; rw [List.mem_singleton] at hc; subst hc; rw [e] at h; cases h
theorem BoxAt.ne {H : Hp} {b c : Addr} {n : Int} (x : BoxAt H b n) (hc : H c = none) : c ≠ b := by
  obtain ⟨_, _, _, e, _⟩ := x; exact (ne_of_none e hc).symm

end Lw
namespace Lw
open PySem PySem.Spec L2 FG
open PyProof.Rows hiding St
/-! ### things of any kind; whole numbers, names, pairs -/
theorem iteB {b : Bool} {A B : Prop} (h1 : b = true → A) (h2 : b = false → B) : if b = true then A else B := by
  cases b with
  | true => exact iteT (h1 rfl)
  | false => exact iteF (h2 rfl)
inductive Sh (H : Hp) : V → Prop
  | non : Sh H .non
  | bl (b : Bool) : Sh H (.bl b)
  | int (z : Int) : Sh H (.int z)
  | str (z : Str) (h : z.length ≤ sizeLine) : Sh H (.str z)
  | lst {a : Addr} {xs : List V} (e : H a = some (.lst xs)) : Sh H (.ref a)
  | tup {a : Addr} {xs : List V} (e : H a = some (.tup xs)) : Sh H (.ref a)
  | dK {a : Addr} {kvs : List (Key × V)} (e : H a = some (.dK kvs)) : Sh H (.ref a)
def isIntV : V → Bool
  | .int _ | .bl _ => true
  | _ => false
def isBlV : V → Bool
  | .bl _ => true
  | _ => false
def numV : V → Bool
  | .int _ => true
  | _ => false
def strV : V → Option Str
  | .str z => some z
  | _ => none
def tupV (H : Hp) : V → Option (List V)
  | .ref a => match H a with
    | some (.tup xs) => some xs
    | _ => none
  | _ => none
theorem Sh.kp {H H' : Hp} {v : V} (s : Sh H v) (k : Kp [] H H') : Sh H' v := by
  cases s with
  | non => exact .non
  | bl b => exact .bl b
  | int z => exact .int z
  | str z h => exact .str z h
  | lst e => exact .lst (k _ _ e (by simp))
  | tup e => exact .tup (k _ _ e (by simp))
  | dK e => exact .dK (k _ _ e (by simp))
theorem tupV_some {H : Hp} {v : V} {xs : List V} (h : tupV H v = some xs) : ∃ a, v = .ref a ∧ H a = some (.tup xs) := by
  unfold tupV at h
  split at h
  · rename_i a
    split at h
    · rename_i ys e
      cases h
      exact ⟨a, rfl, e⟩
    · cases h
  · cases h
theorem tupV_ref {H : Hp} {a : Addr} {xs : List V} (h : H a = some (.tup xs)) : tupV H (.ref a) = some xs := by
  simp only [tupV, h]
theorem Sh.tupKp {H H' : Hp} {v : V} (s : Sh H v) (k : Kp [] H H') : tupV H' v = tupV H v := by
  cases s with
  | non => rfl
  | bl b => rfl
  | int z => rfl
  | str z h => rfl
  | lst e => simp only [tupV, e, k _ _ e (by simp)]
  | tup e => simp only [tupV, e, k _ _ e (by simp)]
  | dK e => simp only [tupV, e, k _ _ e (by simp)]
theorem Sh.ty {H : Hp} {v : V} (K : PySem.W.Frag) (s : Sh H v) : ∃ t : String, TyX K H v (.type t) ∧ kitB t "int" = some (isIntV v) ∧ kitB t "bool" = some (isBlV v) ∧ kitB t "str" = some (strV v).isSome ∧ kitB t "tuple" = some (tupV H v).isSome := by
  cases s with
  | non => exact ⟨_, .base .non, by decide +kernel, by decide +kernel, by decide +kernel, by show _ = some false; decide +kernel⟩
  | bl b => exact ⟨_, .base (.bl b), by show _ = some true; decide +kernel, by show _ = some true; decide +kernel, by show _ = some false; decide +kernel, by show _ = some false; decide +kernel⟩
  | int z => exact ⟨_, .base (.int z), by show _ = some true; decide +kernel, by show _ = some false; decide +kernel, by show _ = some false; decide +kernel, by show _ = some false; decide +kernel⟩
  | str z h => exact ⟨_, .base (.str z), by show _ = some false; decide +kernel, by show _ = some false; decide +kernel, by show _ = some true; decide +kernel, by show _ = some false; decide +kernel⟩
  | lst e => exact ⟨_, .base (.lst e), by show _ = some false; decide +kernel, by show _ = some false; decide +kernel, by show _ = some false; decide +kernel, by simp only [tupV, e]; decide +kernel⟩
  | tup e => exact ⟨_, .base (.tup e), by show _ = some false; decide +kernel, by show _ = some false; decide +kernel, by show _ = some false; decide +kernel, by simp only [tupV, e]; show _ = some true; decide +kernel⟩
  | dK e => exact ⟨_, .base (.dK e), by show _ = some false; decide +kernel, by show _ = some false; decide +kernel, by show _ = some false; decide +kernel, by simp only [tupV, e]; decide +kernel⟩
theorem isInt_num (v : V) (h : isIntV v = true) : (!isBlV v) = numV v := by
  cases v <;> first | rfl | cases h
theorem num_int (v : V) (h : isIntV v = false) : numV v = false := by
  cases v <;> first | rfl | cases h
theorem num_some {v : V} (h : numV v = true) : ∃ z, v = .int z := by
  cases v with
  | int z => exact ⟨z, rfl⟩
  | _ => cases h
theorem strV_some {v : V} {z : Str} (h : strV v = some z) : v = .str z := by
  cases v with
  | str y => cases h; rfl
  | _ => cases h
/-- low to high -/
def wholeV (v : V) (a b : Int) : Bool := match v with
  | .int z => decide (a ≤ z ∧ z ≤ b)
  | _ => false
theorem whole_num {v : V} {a b : Int} (h : numV v = false) : wholeV v a b = false := by
  cases v with
  | int z => cases h
  | _ => rfl
def letter (c : Nat) : Bool := decide (97 ≤ c ∧ c ≤ 122)
def nameS (z : Str) : Bool := decide (1 ≤ z.length ∧ z.length ≤ 6) && z.cps.toList.all letter
def nameV (v : V) : Bool := match strV v with
  | some z => nameS z
  | none => false
def posV : V → Bool
  | .int z => decide (0 ≤ z)
  | _ => false
def pairL (xs : List V) : Bool := decide (xs.length = 2) && xs.all posV
def pairV (H : Hp) (v : V) : Bool := match tupV H v with
  | some xs => pairL xs
  | none => false
/-- a thing, and in a tuple such things -/
structure Th (H : Hp) (v : V) : Prop where
  sh : Sh H v
  el : ∀ xs, tupV H v = some xs → xs.length ≤ 100 ∧ ∀ x ∈ xs, Sh H x
theorem Th.kp {H H' : Hp} {v : V} (s : Th H v) (k : Kp [] H H') : Th H' v := ⟨s.sh.kp k, fun xs h => by
  rw [s.sh.tupKp k] at h
  exact ⟨(s.el xs h).1, fun x hx => ((s.el xs h).2 x hx).kp k⟩⟩
theorem Th.pairKp {H H' : Hp} {v : V} (s : Th H v) (k : Kp [] H H') : pairV H' v = pairV H v := by
  unfold pairV; rw [s.sh.tupKp k]
def spNumG : Sp := fun vs H Q _ => ∃ v, vs = [v] ∧ Sh H v ∧ Q (.bl (numV v)) H
def spWholeG : Sp := fun vs H Q _ => ∃ v a b, vs = [v, .int a, .int b] ∧ Sh H v ∧ Q (.bl (wholeV v a b)) H
def spName : Sp := fun vs H Q _ => ∃ v, vs = [v] ∧ Sh H v ∧ ∀ H', Kp [] H H' → Q (.bl (nameV v)) H'
def spPair : Sp := fun vs H Q _ => ∃ v, vs = [v] ∧ Th H v ∧ ∀ H', Kp [] H H' → Q (.bl (pairV H v)) H'
theorem mem_letters (c : Nat) : decide (c ∈ ("abcdefghijklmnopqrstuvwxyz" : Str).cps.toList) = letter c := by
  have e : ("abcdefghijklmnopqrstuvwxyz" : Str).cps.toList = (List.range 26).map (· + 97) := by decide +kernel
  unfold letter
  rw [e, decide_eq_decide, List.mem_map]
  constructor
  · rintro ⟨x, hx, rfl⟩
    have := List.mem_range.mp hx
    omega
  · rintro ⟨h1, h2⟩
    exact ⟨c - 97, List.mem_range.mpr (by omega), by omega⟩
theorem all_take {α : Type} (p : α → Bool) (xs : List α) : ((xs.map p).all id) = xs.all p := by
  induction xs with
  | nil => rfl
  | cons x xs ih => simp [ih]
theorem map_take {α β : Type} (f : α → β) {xs : List α} {i : Nat} {x : α} (h : xs[i]? = some x) : (xs.take (i + 1)).map f = (xs.take i).map f ++ [f x] := by
  obtain ⟨hi, e⟩ := List.getElem?_eq_some_iff.mp h
  rw [List.take_succ_eq_append_getElem hi, List.map_append, e]; rfl
section
variable {P : Program} {w : World} {K : PySem.W.Frag} {mg : Str → Option Value} {base : Heap}
theorem ok_number (T : Tx K mg) {fd : FuncData} (F : Fun K "is_number" "is_number" s_is_number (He.ga K "is_number") fd) : FnG P w K mg base 1 (He.ga K "is_number") fd ["thing"] spNumG := by
  refine FnG.of F sc_is_number (fun vs H Q E h => ?_) (fun cdv A outer s H vs Q E hr h => ?_)
  · obtain ⟨v, rfl, _⟩ := h; rfl
  · obtain ⟨v, rfl, sh, q⟩ := h
    obtain ⟨t, ht, hi, hb, _, _⟩ := sh.ty K
    refine ⟨_, pss_one (ps_ret (pe_and (pe_callB (kisi K) (by rfl) T.z_isinstance (by decide +kernel) (pa_cons (pv 0) (pa_cons (pe_bltn (v := .ty "int") (by rfl) T.z_int (by decide +kernel) rfl) (pa_nil)))) (pe_one (pe_not (pe_callB (kisi K) (by rfl) T.z_isinstance (by decide +kernel) (pa_cons (pv 0) (pa_cons (pe_bltn (v := .ty "bool") (by rfl) T.z_bool (by decide +kernel) rfl) (pa_nil)))))))), ?_⟩
    refine ⟨_, rfl, _, _, _, _, _, rfl, .ty _, ht, kit_ty hi, _, rfl, ?_⟩
    refine iteB (fun h1 => ?_) (fun h1 => ?_)
    · refine ⟨_, rfl, _, _, _, _, _, rfl, .ty _, ht, kit_ty hb, _, rfl, ?_⟩
      rw [← isInt_num v h1] at q; exact q
    · rw [num_int v h1] at q; exact q
theorem ok_whole (T : Tx K mg) {fd : FuncData} (F : Fun K "is_whole" "is_whole" s_is_whole (He.ga K "is_whole") fd) (c_is_number : Cal P w K mg base 1 "is_number" spNumG) : FnG P w K mg base 2 (He.ga K "is_whole") fd ["thing", "low", "high"] spWholeG := by
  refine FnG.of F sc_is_whole (fun vs H Q E h => ?_) (fun cdv A outer s H vs Q E hr h => ?_)
  · obtain ⟨v, a, b, rfl, _⟩ := h; rfl
  · obtain ⟨v, a, b, rfl, sh, q⟩ := h
    refine ⟨_, pss_one (ps_ret (pe_and (gc c_is_number (hr.mono (by decide)) takes0 (pa_cons (pv 0) (pa_nil))) (pe_one (pe_chain op_le op_le (pv 1) (pv 0) (pv 2))))), ?_⟩
    refine ⟨_, rfl, v, rfl, sh, _, rfl, ?_⟩
    refine iteB (fun h1 => ?_) (fun h1 => ?_)
    · obtain ⟨z, rfl⟩ := num_some h1
      refine ⟨_, rfl, _, rfl, _, _, rfl, rfl, _, rfl, ?_⟩
      by_cases h1 : a ≤ z
      · rw [decide_eq_true h1]
        refine iteT ⟨_, rfl, _, _, rfl, rfl, ?_⟩
        have e : wholeV (.int z) a b = decide (z ≤ b) := by simp [wholeV, h1]
        rw [e] at q; exact q
      · rw [decide_eq_false h1]
        refine iteF ?_
        have e : wholeV (.int z) a b = false := by simp [wholeV, h1]
        rw [e] at q; exact q
    · rw [whole_num h1] at q; exact q
theorem ok_name (T : Tx K mg) {fd : FuncData} (F : Fun K "is_name" "is_name" s_is_name (He.ga K "is_name") fd) : FnG P w K mg base 1 (He.ga K "is_name") fd ["thing"] spName := by
  refine FnG.of F sc_is_name (fun vs H Q E h => ?_) (fun cdv A outer s H vs Q E hr h => ?_)
  · obtain ⟨v, rfl, _⟩ := h; rfl
  · obtain ⟨v, rfl, sh, q⟩ := h
    obtain ⟨t, ht, _, _, hs, _⟩ := sh.ty K
    obtain ⟨tL, hg_LETTERS⟩ := T.i_LETTERS
    obtain ⟨tM, hg_LONGEST⟩ := T.i_LONGEST
    refine ⟨_, pss_cons (ps_if (PW.pt (pw_or (pt_not (pt_val (pe_callB (kisi K) (by rfl) T.z_isinstance (by decide +kernel) (pa_cons (pv 0) (pa_cons (pe_bltn (v := .ty "str") (by rfl) T.z_str (by decide +kernel) rfl) (pa_nil)))))) (pw_or1 (pt_not (pt_chain op_le op_le (pe_int) (pe_callB call_len_str (by rfl) T.z_len PySem.boot_len (pa_cons (pv 0) (pa_nil))) (pe_glob (v := .int 6) rfl hg_LONGEST ⟨_, rfl⟩)))))) (pss_one (ps_ret (pe_bl))) (pss_nil))
      (pss_one (ps_ret (pe_callB (kall K) (by rfl) T.z_all (by decide +kernel) (pa_cons (pe_lc (own := [("sign", 1)]) (g := gName 1) (tt := tYes) rfl sc_is_name.nd (pi_str (pv 0)) (blkOk_by (own := [("sign", 1)]) (N := ["thing", "sign"]) (sc := defScope s_is_name) (by decide +kernel)) (fun _ _ _ _ _ => pg_name (i := 1) sc_is_name.nd rfl (by first | exact Or.inl rfl | exact Or.inr rfl)) (fun _ _ _ _ _ => by exact pts_nil) (fun _ _ _ _ _ => by exact pe_cmpR op_in_sign (pv 1) (pe_glob (v := .str "abcdefghijklmnopqrstuvwxyz") rfl hg_LETTERS ⟨_, rfl⟩) (by first | exact nomark _ | rfl))) (pa_nil))))), ?_⟩
    cases hv : strV v with
    | none =>
      rw [hv] at hs
      have e : nameV v = false := by unfold nameV; rw [hv]
      rw [e] at q
      exact ⟨_, rfl, _, _, _, _, false, rfl, .ty _, ht, kit_ty hs, false, rfl, iteT (iteT (q H Kp.refl))⟩
    | some z =>
      rw [hv] at hs
      obtain rfl := strV_some hv
      have hz : z.length ≤ sizeLine := by cases sh; assumption
      have e : nameV (.str z) = nameS z := by unfold nameV; rw [hv]
      rw [e] at q
      refine ⟨_, rfl, _, _, _, _, true, rfl, .ty _, ht, kit_ty hs, true, rfl, iteF ⟨_, rfl, z, rfl, hz, _, _, rfl, rfl, _, rfl, ?_⟩⟩
      by_cases h1 : (1 : Int) ≤ z.length
      · rw [decide_eq_true h1]
        refine iteT ⟨_, _, rfl, rfl, _, rfl, ?_⟩
        by_cases h2 : (z.length : Int) ≤ 6
        · rw [decide_eq_true h2]
          refine iteF ⟨_, rfl, z, rfl, fun D hD => ?_⟩
          have neD : ∀ b o, H b = some o → b ≠ D := fun b o eb => ne_of_none eb hD
          refine lc_it walk_str (fun i H2 => Kp [] H H2 ∧ H2 D = some (.lst (((z.cps.toList.take i).map letter).map V.bl))) ⟨fun b o eb _ => (upd_ne (neD b o eb)).trans eb, upd_same⟩ (fun _ _ _ _ => trivial) ?_ ?_
          · rintro i x H3 H2 hi ⟨k2, eD⟩ ⟨rfl, c, hc, rfl⟩
            refine ⟨rfl, _, rfl, c, _, rfl, rfl, _, eD, ?_, ?_⟩
            · have h9 : (List.take i z.cps.toList).length ≤ (z.cps.toList).length := by rw [List.length_take]; omega
              rw [List.length_map, List.length_map]
              have h3 : z.cps.toList.length = z.length := by simp [Str.length]
              have : z.length ≤ 6 := by omega
              refine Nat.lt_of_le_of_lt (m := 6) (by omega) (by decide)
            · refine ⟨fun b o eb _ => (upd_ne (neD b o eb)).trans (k2 b o eb (by simp)), ?_⟩
              have hc2 : z.cps.toList[i]? = some c := by rw [Array.getElem?_toList]; exact hc
              rw [upd_same, mem_letters, map_take letter hc2, List.map_append]; rfl
          · rintro H2 ⟨k2, eD⟩
            refine ⟨D, z.cps.toList.map letter, rfl, ?_, ?_⟩
            · have h3 : z.cps.toList.take z.cps.size = z.cps.toList := by rw [← Array.length_toList, List.take_length]
              rw [h3] at eD
              exact SqL.of eD
            · rw [all_take]
              have e2 : nameS z = z.cps.toList.all letter := by
                unfold nameS
                rw [decide_eq_true (by omega), Bool.true_and]
              rw [← e2]; exact q H2 k2
        · rw [decide_eq_false h2]
          have e2 : nameS z = false := by unfold nameS; rw [decide_eq_false (by omega), Bool.false_and]
          rw [e2] at q
          exact iteT (q H Kp.refl)
      · rw [decide_eq_false h1]
        have e2 : nameS z = false := by unfold nameS; rw [decide_eq_false (by omega), Bool.false_and]
        rw [e2] at q
        exact iteF ⟨_, rfl, iteT (q H Kp.refl)⟩
theorem ok_pair (T : Tx K mg) {fd : FuncData} (F : Fun K "is_pair" "is_pair" s_is_pair (He.ga K "is_pair") fd) (c_is_number : Cal P w K mg base 1 "is_number" spNumG) : FnG P w K mg base 2 (He.ga K "is_pair") fd ["thing"] spPair := by
  refine FnG.of F sc_is_pair (fun vs H Q E h => ?_) (fun cdv A outer s H vs Q E hr h => ?_)
  · obtain ⟨v, rfl, _⟩ := h; rfl
  · obtain ⟨v, rfl, ⟨sh, el⟩, q⟩ := h
    obtain ⟨t, ht, _, _, _, hs⟩ := sh.ty K
    refine ⟨_, pss_cons (ps_if (PW.pt (pw_or (pt_not (pt_val (pe_callB (kisi K) (by rfl) T.z_isinstance (by decide +kernel) (pa_cons (pv 0) (pa_cons (pe_bltn (v := .ty "tuple") (by rfl) T.z_tuple (by decide +kernel) rfl) (pa_nil)))))) (pw_or1 (pt_cmpR op_ne (pe_callB (klen K) (by rfl) T.z_len PySem.boot_len (pa_cons (pv 0) (pa_nil))) (pe_int) (by first | exact nomark _ | rfl))))) (pss_one (ps_ret (pe_bl))) (pss_nil))
      (pss_one (ps_ret (pe_callB (kall K) (by rfl) T.z_all (by decide +kernel) (pa_cons (pe_lc (own := [("one", 1)]) (g := gName 1) (tt := tYes) rfl sc_is_pair.nd (kiT K (pv 0)) (blkOk_by (own := [("one", 1)]) (N := ["thing", "one"]) (sc := defScope s_is_pair) (by decide +kernel)) (fun _ _ _ _ _ => pg_name (i := 1) sc_is_pair.nd rfl (by first | exact Or.inl rfl | exact Or.inr rfl)) (fun _ _ _ _ _ => by exact pts_nil) (fun _ _ _ _ _ => by exact pe_and (gc c_is_number (hr.mono (by decide)) takes0 (pa_cons (pv 1) (pa_nil))) (pe_one (pe_cmpR op_ge (pv 1) (pe_int) (by first | exact nomark _ | rfl))))) (pa_nil))))), ?_⟩
    cases hv : tupV H v with
    | none =>
      rw [hv] at hs
      have e : pairV H v = false := by unfold pairV; rw [hv]
      rw [e] at q
      exact ⟨_, rfl, _, _, _, _, false, rfl, .ty _, ht, kit_ty hs, false, rfl, iteT (iteT (q H Kp.refl))⟩
    | some xs =>
      rw [hv] at hs
      obtain ⟨a, rfl, ea⟩ := tupV_some hv
      obtain ⟨hl, hx⟩ := el xs hv
      have e : pairV H (.ref a) = pairL xs := by unfold pairV; rw [hv]
      rw [e] at q
      refine ⟨_, rfl, _, _, _, _, true, rfl, .ty _, ht, kit_ty hs, true, rfl, iteF ⟨_, rfl, a, xs, rfl, .inr (SqT.of ea), rfl, _, rfl, ?_⟩⟩
      by_cases h2 : xs.length = 2
      · have z : decide (V.int xs.length = V.int 2) = true := decide_eq_true (by rw [h2]; rfl)
        rw [z]
        refine iteF ⟨_, rfl, a, rfl, ⟨xs, SqT.of ea⟩, fun D hD => ?_⟩
        have neD : ∀ b o, H b = some o → b ≠ D := fun b o eb => ne_of_none eb hD
        refine lc_tup (K := K) (a := a) (xs := xs) (fun i H2 => Kp [] H H2 ∧ H2 D = some (.lst (((xs.take i).map posV).map V.bl))) ⟨fun b o eb _ => (upd_ne (neD b o eb)).trans eb, upd_same⟩ (fun i H2 _ ⟨k2, _⟩ => SqT.of (k2 _ _ ea (by simp))) ?_ ?_
        · rintro i x H2 hx2 ⟨k2, eD⟩
          have hm : x ∈ xs := List.mem_of_getElem? hx2
          have fin : ∀ b, b = posV x → ∃ acc, H2 D = some (.lst acc) ∧ acc.length < sizeLine ∧ Kp [] H (upd H2 D (.lst (acc ++ [V.bl b]))) ∧ upd H2 D (.lst (acc ++ [V.bl b])) D = some (.lst (((xs.take (i + 1)).map posV).map V.bl)) := by
            rintro b rfl
            refine ⟨_, eD, ?_, fun b o eb _ => (upd_ne (neD b o eb)).trans (k2 b o eb (by simp)), ?_⟩
            · have h9 : (List.take i xs).length ≤ (xs).length := by rw [List.length_take]; omega
              rw [List.length_map, List.length_map]
              exact Nat.lt_of_le_of_lt (m := 2) (by omega) (by decide)
            · rw [upd_same, map_take posV hx2, List.map_append]; rfl
          refine ⟨rfl, _, rfl, x, rfl, (hx x hm).kp k2, _, rfl, ?_⟩
          refine iteB (fun h1 => ?_) (fun h1 => ?_)
          · obtain ⟨z, rfl⟩ := num_some h1
            exact ⟨_, rfl, _, _, rfl, rfl, fin _ rfl⟩
          · exact fin _ (by cases x with | int z => cases h1 | _ => rfl)
        · rintro H2 ⟨k2, eD⟩
          rw [List.take_length] at eD
          refine ⟨D, xs.map posV, rfl, SqL.of eD, ?_⟩
          rw [all_take]
          have e2 : pairL xs = xs.all posV := by unfold pairL; rw [decide_eq_true h2, Bool.true_and]
          rw [← e2]; exact q H2 k2
      · have z : decide (V.int xs.length = V.int 2) = false := decide_eq_false (fun c => h2 (by injection c with c; omega))
        rw [z]
        have e2 : pairL xs = false := by unfold pairL; rw [decide_eq_false h2, Bool.false_and]
        rw [e2] at q
        exact iteT (q H Kp.refl)
end

end Lw
namespace Lw
open PySem PySem.Spec L2 FG
open PyProof.Rows hiding St
/-! the law's own words -/
theorem lt_sign (c d : Nat) : decide (([c] : List Nat) < [d]) = decide (c < d) := by
  rw [decide_eq_decide, List.cons_lt_cons_iff]
  constructor
  · rintro (h | ⟨_, h⟩)
    · exact h
    · cases h
  · exact .inl
theorem empty_filter {α : Type} (p : α → Bool) (xs : List α) : (xs.filter fun x => !p x).isEmpty = xs.all p := by
  induction xs with
  | nil => rfl
  | cons x xs ih =>
    cases h : p x with
    | true => simp [h, ih]
    | false => simp [h]
theorem empty_map {α β : Type} (f : α → β) (xs : List α) : (xs.map f).isEmpty = xs.isEmpty := by cases xs <;> rfl
section
variable {P : Program} {w : World} {K : PySem.W.Frag} {mg : Str → Option Value} {base : Heap}
theorem ok_lnumber (T : Tx K mg) {fd : FuncData} (F : Fun K "_law_is_number" "_law_is_number" s__law_is_number (He.ga K "_law_is_number") fd) : FnG P w K mg base 1 (He.ga K "_law_is_number") fd ["_law_thing"] spNumG := by
  refine FnG.of F sc__law_is_number (fun vs H Q E h => ?_) (fun cdv A outer s H vs Q E hr h => ?_)
  · obtain ⟨v, rfl, _⟩ := h; rfl
  · obtain ⟨v, rfl, sh, q⟩ := h
    obtain ⟨t, ht, hi, hb, _, _⟩ := sh.ty K
    refine ⟨_, pss_one (ps_ret (pe_and (pe_callB (kisi K) (by rfl) T.z_isinstance (by decide +kernel) (pa_cons (pv 0) (pa_cons (pe_bltn (v := .ty "int") (by rfl) T.z_int (by decide +kernel) rfl) (pa_nil)))) (pe_one (pe_not (pe_callB (kisi K) (by rfl) T.z_isinstance (by decide +kernel) (pa_cons (pv 0) (pa_cons (pe_bltn (v := .ty "bool") (by rfl) T.z_bool (by decide +kernel) rfl) (pa_nil)))))))), ?_⟩
    refine ⟨_, rfl, _, _, _, _, _, rfl, .ty _, ht, kit_ty hi, _, rfl, ?_⟩
    refine iteB (fun h1 => ?_) (fun h1 => ?_)
    · refine ⟨_, rfl, _, _, _, _, _, rfl, .ty _, ht, kit_ty hb, _, rfl, ?_⟩
      rw [← isInt_num v h1] at q; exact q
    · rw [num_int v h1] at q; exact q
theorem ok_lname (T : Tx K mg) {fd : FuncData} (F : Fun K "_law_is_name" "_law_is_name" s__law_is_name (He.ga K "_law_is_name") fd) : FnG P w K mg base 1 (He.ga K "_law_is_name") fd ["_law_thing"] spName := by
  refine FnG.of F sc__law_is_name (fun vs H Q E h => ?_) (fun cdv A outer s H vs Q E hr h => ?_)
  · obtain ⟨v, rfl, _⟩ := h; rfl
  · obtain ⟨v, rfl, sh, q⟩ := h
    obtain ⟨t, ht, _, _, hs, _⟩ := sh.ty K
    refine ⟨_, pss_cons (ps_if (PW.pt (pw_or (pt_not (pt_val (pe_callB (kisi K) (by rfl) T.z_isinstance (by decide +kernel) (pa_cons (pv 0) (pa_cons (pe_bltn (v := .ty "str") (by rfl) T.z_str (by decide +kernel) rfl) (pa_nil)))))) (pw_or (pt_cmpR op_lt (pe_callB call_len_str (by rfl) T.z_len PySem.boot_len (pa_cons (pv 0) (pa_nil))) (pe_int) (by first | exact nomark _ | rfl)) (pw_or1 (pt_cmpR op_gt (pe_callB call_len_str (by rfl) T.z_len PySem.boot_len (pa_cons (pv 0) (pa_nil))) (pe_int) (by first | exact nomark _ | rfl)))))) (pss_one (ps_ret (pe_bl))) (pss_nil))
      (pss_one (ps_ret (pe_cmpR (keqE K hr.r.units) (pe_lc (own := [("_law_sign", 1)]) (g := gName 1) rfl sc__law_is_name.nd (pi_str (pv 0)) (blkOk_by (own := [("_law_sign", 1)]) (N := ["_law_thing", "_law_sign"]) (sc := defScope s__law_is_name) (by decide +kernel)) (fun _ _ _ _ _ => pg_name (i := 1) sc__law_is_name.nd rfl (by first | exact Or.inl rfl | exact Or.inr rfl)) (fun _ _ _ _ _ => by exact pts_one (PW.pt (pw_or (pt_cmpR op_lt_str (pv 1) (pe_str) (by first | exact nomark _ | rfl)) (pw_or1 (pt_cmpR op_gt_str (pv 1) (pe_str) (by first | exact nomark _ | rfl)))))) (fun _ _ _ _ _ => by exact pv 1)) (pe_lst (pa_nil)) (by first | exact nomark _ | rfl)))), ?_⟩
    cases hv : strV v with
    | none =>
      rw [hv] at hs
      have e : nameV v = false := by unfold nameV; rw [hv]
      rw [e] at q
      exact ⟨_, rfl, _, _, _, _, false, rfl, .ty _, ht, kit_ty hs, false, rfl, iteT (iteT (q H Kp.refl))⟩
    | some z =>
      rw [hv] at hs
      obtain rfl := strV_some hv
      have hz : z.length ≤ sizeLine := by cases sh; assumption
      have e : nameV (.str z) = nameS z := by unfold nameV; rw [hv]
      rw [e] at q
      refine ⟨_, rfl, _, _, _, _, true, rfl, .ty _, ht, kit_ty hs, true, rfl, iteF ⟨_, rfl, z, rfl, hz, _, _, rfl, rfl, _, rfl, ?_⟩⟩
      by_cases h1 : (z.length : Int) < 1
      · rw [decide_eq_true h1]
        have e2 : nameS z = false := by unfold nameS; rw [decide_eq_false (by omega), Bool.false_and]
        rw [e2] at q
        exact iteT (iteT (q H Kp.refl))
      · rw [decide_eq_false h1]
        refine iteF ⟨_, rfl, z, rfl, hz, _, _, rfl, rfl, _, rfl, ?_⟩
        by_cases h2 : (6 : Int) < z.length
        · rw [decide_eq_true h2]
          have e2 : nameS z = false := by unfold nameS; rw [decide_eq_false (by omega), Bool.false_and]
          rw [e2] at q
          exact iteT (q H Kp.refl)
        · rw [decide_eq_false h2]
          refine iteF ⟨_, rfl, z, rfl, fun D hD => ?_⟩
          have neD : ∀ b o, H b = some o → b ≠ D := fun b o eb => ne_of_none eb hD
          refine lc_it walk_str (fun i H2 => Kp [] H H2 ∧ H2 D = some (.lst (((z.cps.toList.take i).filter fun c => !letter c).map fun c => V.str ⟨#[c]⟩))) ⟨fun b o eb _ => (upd_ne (neD b o eb)).trans eb, upd_same⟩ (fun _ _ _ _ => trivial) ?_ ?_
          · rintro i x H3 H2 hi ⟨k2, eD⟩ ⟨rfl, c, hc, rfl⟩
            have hc2 : z.cps.toList[i]? = some c := by rw [Array.getElem?_toList]; exact hc
            have yes : letter c = false → ∃ acc, H2 D = some (.lst acc) ∧ acc.length < sizeLine ∧ Kp [] H (upd H2 D (.lst (acc ++ [V.str ⟨#[c]⟩]))) ∧ upd H2 D (.lst (acc ++ [V.str ⟨#[c]⟩])) D = some (.lst (((z.cps.toList.take (i + 1)).filter fun c => !letter c).map fun c => V.str ⟨#[c]⟩)) := by
              intro hl
              refine ⟨_, eD, ?_, fun b o eb _ => (upd_ne (neD b o eb)).trans (k2 b o eb (by simp)), ?_⟩
              · have h9 : (List.take i z.cps.toList).length ≤ (z.cps.toList).length := by rw [List.length_take]; omega
                have h4 := List.length_filter_le (fun c => !letter c) (z.cps.toList.take i)
                rw [List.length_map]
                have h3 : z.cps.toList.length = z.length := by simp [Str.length]
                exact Nat.lt_of_le_of_lt (m := 6) (by omega) (by decide)
              · rw [upd_same, sel_yes (fun c => V.str ⟨#[c]⟩) (fun c => !letter c) hc2 (by simp [hl])]
            refine ⟨rfl, ⟨_, rfl, _, _, rfl, rfl, _, rfl, ?_⟩⟩
            have e1 : decide ((⟨#[c]⟩ : Str).cps.toList < ("a" : Str).cps.toList) = decide (c < 97) := lt_sign c 97
            rw [e1]
            by_cases g1 : c < 97
            · rw [decide_eq_true g1]
              refine iteT (iteT ⟨_, rfl, yes ?_⟩)
              unfold letter; exact decide_eq_false (by omega)
            · rw [decide_eq_false g1]
              refine iteF ⟨_, rfl, _, _, rfl, rfl, _, rfl, ?_⟩
              have e2 : decide (("z" : Str).cps.toList < (⟨#[c]⟩ : Str).cps.toList) = decide (122 < c) := lt_sign 122 c
              rw [e2]
              by_cases g2 : 122 < c
              · rw [decide_eq_true g2]
                refine iteT ⟨_, rfl, yes ?_⟩
                unfold letter; exact decide_eq_false (by omega)
              · rw [decide_eq_false g2]
                refine iteF ⟨k2, ?_⟩
                rw [eD, sel_no (fun c => V.str ⟨#[c]⟩) (fun c => !letter c) hc2]
                unfold letter; simp; omega
          · rintro H2 ⟨k2, eD⟩
            have h3 : z.cps.toList.take z.cps.size = z.cps.toList := by rw [← Array.length_toList, List.take_length]
            rw [h3] at eD
            refine ⟨by decide, fun l hl => ⟨D, l, _, rfl, rfl, SqL.of ((upd_ne (ne_of_none eD hl)).trans eD), SqL.of upd_same, ?_⟩⟩
            rw [empty_map, empty_filter]
            have e2 : nameS z = z.cps.toList.all letter := by
              unfold nameS
              rw [decide_eq_true (by omega), Bool.true_and]
            rw [← e2]; exact q _ fun b o eb hb => (upd_ne (ne_of_none (k2 b o eb hb) hl)).trans (k2 b o eb hb)
theorem ok_lpair (T : Tx K mg) {fd : FuncData} (F : Fun K "_law_is_pair" "_law_is_pair" s__law_is_pair (He.ga K "_law_is_pair") fd) (c__law_is_number : Cal P w K mg base 1 "_law_is_number" spNumG) : FnG P w K mg base 2 (He.ga K "_law_is_pair") fd ["_law_thing"] spPair := by
  refine FnG.of F sc__law_is_pair (fun vs H Q E h => ?_) (fun cdv A outer s H vs Q E hr h => ?_)
  · obtain ⟨v, rfl, _⟩ := h; rfl
  · obtain ⟨v, rfl, ⟨sh, el⟩, q⟩ := h
    obtain ⟨t, ht, _, _, _, hs⟩ := sh.ty K
    refine ⟨_, pss_cons (ps_if (PW.pt (pw_or (pt_not (pt_val (pe_callB (kisi K) (by rfl) T.z_isinstance (by decide +kernel) (pa_cons (pv 0) (pa_cons (pe_bltn (v := .ty "tuple") (by rfl) T.z_tuple (by decide +kernel) rfl) (pa_nil)))))) (pw_or1 (pt_cmpR op_ne (pe_callB (klen K) (by rfl) T.z_len PySem.boot_len (pa_cons (pv 0) (pa_nil))) (pe_int) (by first | exact nomark _ | rfl))))) (pss_one (ps_ret (pe_bl))) (pss_nil))
      (pss_one (ps_ret (pe_cmpR (keqE K hr.r.units) (pe_lc (own := [("_law_one", 1)]) (g := gName 1) rfl sc__law_is_pair.nd (kiT K (pv 0)) (blkOk_by (own := [("_law_one", 1)]) (N := ["_law_thing", "_law_one"]) (sc := defScope s__law_is_pair) (by decide +kernel)) (fun _ _ _ _ _ => pg_name (i := 1) sc__law_is_pair.nd rfl (by first | exact Or.inl rfl | exact Or.inr rfl)) (fun _ _ _ _ _ => by exact pts_one (PW.pt (pw_or (pt_not (pt_val (gc c__law_is_number (hr.mono (by decide)) takes0 (pa_cons (pv 1) (pa_nil))))) (pw_or1 (pt_cmpR op_lt (pv 1) (pe_int) (by first | exact nomark _ | rfl)))))) (fun _ _ _ _ _ => by exact pv 1)) (pe_lst (pa_nil)) (by first | exact nomark _ | rfl)))), ?_⟩
    cases hv : tupV H v with
    | none =>
      rw [hv] at hs
      have e : pairV H v = false := by unfold pairV; rw [hv]
      rw [e] at q
      exact ⟨_, rfl, _, _, _, _, false, rfl, .ty _, ht, kit_ty hs, false, rfl, iteT (iteT (q H Kp.refl))⟩
    | some xs =>
      rw [hv] at hs
      obtain ⟨a, rfl, ea⟩ := tupV_some hv
      obtain ⟨hl, hx⟩ := el xs hv
      have e : pairV H (.ref a) = pairL xs := by unfold pairV; rw [hv]
      rw [e] at q
      refine ⟨_, rfl, _, _, _, _, true, rfl, .ty _, ht, kit_ty hs, true, rfl, iteF ⟨_, rfl, a, xs, rfl, .inr (SqT.of ea), rfl, _, rfl, ?_⟩⟩
      by_cases h2 : xs.length = 2
      · have z : decide (V.int xs.length = V.int 2) = true := decide_eq_true (by rw [h2]; rfl)
        rw [z]
        refine iteF ⟨_, rfl, a, rfl, ⟨xs, SqT.of ea⟩, fun D hD => ?_⟩
        have neD : ∀ b o, H b = some o → b ≠ D := fun b o eb => ne_of_none eb hD
        refine lc_tup (K := K) (a := a) (xs := xs) (fun i H2 => Kp [] H H2 ∧ H2 D = some (.lst (((xs.take i).filter fun x => !posV x).map id))) ⟨fun b o eb _ => (upd_ne (neD b o eb)).trans eb, upd_same⟩ (fun i H2 _ ⟨k2, _⟩ => SqT.of (k2 _ _ ea (by simp))) ?_ ?_
        · rintro i x H2 hx2 ⟨k2, eD⟩
          have hm : x ∈ xs := List.mem_of_getElem? hx2
          have yes : posV x = false → ∃ acc, H2 D = some (.lst acc) ∧ acc.length < sizeLine ∧ Kp [] H (upd H2 D (.lst (acc ++ [x]))) ∧ upd H2 D (.lst (acc ++ [x])) D = some (.lst (((xs.take (i + 1)).filter fun x => !posV x).map id)) := by
            intro hp
            refine ⟨_, eD, ?_, fun b o eb _ => (upd_ne (neD b o eb)).trans (k2 b o eb (by simp)), ?_⟩
            · have h9 : (List.take i xs).length ≤ (xs).length := by rw [List.length_take]; omega
              have h4 := List.length_filter_le (fun x => !posV x) (xs.take i)
              rw [List.length_map]
              exact Nat.lt_of_le_of_lt (m := 2) (by omega) (by decide)
            · rw [upd_same, sel_yes id (fun x => !posV x) hx2 (by simp [hp])]; rfl
          have no : posV x = true → Kp [] H H2 ∧ H2 D = some (.lst (((xs.take (i + 1)).filter fun x => !posV x).map id)) := fun hp =>
            ⟨k2, by rw [eD, sel_no id (fun x => !posV x) hx2 (by simp [hp])]⟩
          refine ⟨rfl, ⟨_, rfl, x, rfl, (hx x hm).kp k2, _, rfl, ?_⟩⟩
          cases h1 : numV x with
          | false => exact iteT (iteT ⟨_, rfl, yes (by cases x with | int z => cases h1 | _ => rfl)⟩)
          | true =>
            obtain ⟨z, rfl⟩ := num_some h1
            refine iteF ⟨_, rfl, _, _, rfl, rfl, _, rfl, ?_⟩
            by_cases g : z < 0
            · rw [decide_eq_true g]
              exact iteT ⟨_, rfl, yes (decide_eq_false (by omega))⟩
            · rw [decide_eq_false g]
              exact iteF (no (decide_eq_true (by omega)))
        · rintro H2 ⟨k2, eD⟩
          rw [List.take_length] at eD
          refine ⟨by decide, fun l hl => ⟨D, l, _, rfl, rfl, SqL.of ((upd_ne (ne_of_none eD hl)).trans eD), SqL.of upd_same, ?_⟩⟩
          rw [empty_map, empty_filter]
          have e2 : pairL xs = xs.all posV := by unfold pairL; rw [decide_eq_true h2, Bool.true_and]
          rw [← e2]; exact q _ fun b o eb hb => (upd_ne (ne_of_none (k2 b o eb hb) hl)).trans (k2 b o eb hb)
      · have z : decide (V.int xs.length = V.int 2) = false := decide_eq_false (fun c => h2 (by injection c with c; omega))
        rw [z]
        have e2 : pairL xs = false := by unfold pairL; rw [decide_eq_false h2, Bool.false_and]
        rw [e2] at q
        exact iteT (q H Kp.refl)
end

end Lw
namespace Lw
open PySem PySem.Spec L2 FG
open PyProof.Rows hiding St
/-! the law's things -/
theorem cutS_len (z : Str) (lo hi : Option Int) : (cutS z lo hi).length ≤ z.length := by
  unfold cutS
  simp only [Str.length, List.size_toArray, List.length_take, List.length_drop, Array.length_toList]
  omega
theorem Sh.kpb {H H' : Hp} {v : V} {b : Addr} {n : Int} (s : Sh H v) (k : Kp [b] H H') (hb : BoxAt H b n) (hv : v ≠ .ref b) : Sh H' v := by
  have h : ∀ {a o}, v = .ref a → H a = some o → H' a = some o := fun {a o} e ea => k _ _ ea (by
    intro c; rw [List.mem_singleton] at c; subst c; exact hv e)
  cases s with
  | non => exact .non
  | bl b => exact .bl b
  | int z => exact .int z
  | str z hz => exact .str z hz
  | lst e => exact .lst (h rfl e)
  | tup e => exact .tup (h rfl e)
  | dK e => exact .dK (h rfl e)
/-- a thing that is kept where b changes -/
structure Kt (b : Addr) (H : Hp) (v : V) : Prop where
  th : Th H v
  nb : v ≠ .ref b
  el : ∀ xs, tupV H v = some xs → ∀ x ∈ xs, x ≠ .ref b
theorem Sh.tupKpb {H H' : Hp} {v : V} {b : Addr} (s : Sh H v) (k : Kp [b] H H') (hv : v ≠ .ref b) : tupV H' v = tupV H v := by
  have h : ∀ {a o}, v = .ref a → H a = some o → H' a = some o := fun {a o} e ea => k _ _ ea (by
    intro c; rw [List.mem_singleton] at c; subst c; exact hv e)
  cases s with
  | non => rfl
  | bl b => rfl
  | int z => rfl
  | str z h => rfl
  | lst e => simp only [tupV, e, h rfl e]
  | tup e => simp only [tupV, e, h rfl e]
  | dK e => simp only [tupV, e, h rfl e]
theorem Kt.kpb {H H' : Hp} {v : V} {b : Addr} {n : Int} (s : Kt b H v) (k : Kp [b] H H') (hb : BoxAt H b n) : Kt b H' v := by
  have e := s.th.sh.tupKpb k s.nb
  refine ⟨⟨s.th.sh.kpb k hb s.nb, fun xs h => ?_⟩, s.nb, fun xs h => s.el xs (e ▸ h)⟩
  rw [e] at h
  exact ⟨(s.th.el xs h).1, fun x hx => ((s.th.el xs h).2 x hx).kpb k hb (s.el xs h x hx)⟩
theorem Kt.kp {H H' : Hp} {v : V} {b : Addr} (s : Kt b H v) (k : Kp [] H H') : Kt b H' v :=
  ⟨s.th.kp k, s.nb, fun xs h => s.el xs ((s.th.sh.tupKp k) ▸ h)⟩
theorem Kt.int {H : Hp} {b : Addr} (z : Int) : Kt b H (.int z) := ⟨⟨.int z, fun xs h => by cases h⟩, (fun c => by cases c), fun xs h => by cases h⟩
theorem Kt.str {H : Hp} {b : Addr} (z : Str) (hz : z.length ≤ sizeLine) : Kt b H (.str z) := ⟨⟨.str z hz, fun xs h => by cases h⟩, (fun c => by cases c), fun xs h => by cases h⟩
theorem Kt.non {H : Hp} {b : Addr} : Kt b H .non := ⟨⟨.non, fun xs h => by cases h⟩, (fun c => by cases c), fun xs h => by cases h⟩
theorem Kt.bl {H : Hp} {b : Addr} (z : Bool) : Kt b H (.bl z) := ⟨⟨.bl z, fun xs h => by cases h⟩, (fun c => by cases c), fun xs h => by cases h⟩
theorem Kt.lst {H : Hp} {a b : Addr} {xs : List V} (e : H a = some (.lst xs)) (n : a ≠ b) : Kt b H (.ref a) := ⟨⟨.lst e, fun xs h => by simp [tupV, e] at h⟩, (fun c => by injection c with c; exact n c), fun xs h => by simp [tupV, e] at h⟩
theorem Kt.dK {H : Hp} {a b : Addr} {kvs : List (Key × V)} (e : H a = some (.dK kvs)) (n : a ≠ b) : Kt b H (.ref a) := ⟨⟨.dK e, fun xs h => by simp [tupV, e] at h⟩, (fun c => by injection c with c; exact n c), fun xs h => by simp [tupV, e] at h⟩
theorem Kt.tup {H : Hp} {a b : Addr} {xs : List V} (e : H a = some (.tup xs)) (n : a ≠ b) (hl : xs.length ≤ 100) (hx : ∀ x ∈ xs, Sh H x ∧ x ≠ .ref b) : Kt b H (.ref a) :=
  ⟨⟨.tup e, fun ys h => by
    simp only [tupV, e, Option.some.injEq] at h
    subst h
    exact ⟨hl, fun x m => (hx x m).1⟩⟩, (fun c => by injection c with c; exact n c), fun ys h => by
    simp only [tupV, e, Option.some.injEq] at h
    subst h
    exact fun x m => (hx x m).2⟩
def spPage : Sp := fun vs H Q _ => vs = [] ∧ ∀ z : Str, z.length = 94 → Q (.str z) H
def spBounds : Sp := fun vs H Q _ => ∃ (b : Addr) (n : Int), vs = [.ref b] ∧ BoxAt H b n ∧ n < 100000000 ∧ ∀ H' p lo hi, Kp [b] H H' → BoxAt H' b (n + 5) → p ≠ b → H' p = some (.tup [.int lo, .int hi]) → Q (.ref p) H'
def spText : Sp := fun vs H Q _ => ∃ (b : Addr) (n : Int), vs = [.ref b] ∧ BoxAt H b n ∧ n < 100000000 ∧ ∀ H' z, Kp [b] H H' → BoxAt H' b (n + 20) → z.length ≤ 40 → Q (.str z) H'
def spOther : Sp := fun vs H Q _ => ∃ (b : Addr) (n : Int), vs = [.ref b] ∧ BoxAt H b n ∧ n < 200000000 ∧ ∀ H' v, Kp [b] H H' → BoxAt H' b (n + 1) → Kt b H' v → Q v H'
def spRow1 : Sp := fun vs H Q _ => ∃ (b : Addr) (n : Int), vs = [.ref b] ∧ BoxAt H b n ∧ n < 100000000 ∧ ∀ H' v, Kp [b] H H' → BoxAt H' b (n + 30) → Kt b H' v → Q v H'
def spThings : Sp := fun vs H Q _ => ∃ (b p : Addr) (n lo hi : Int), vs = [.ref b, .ref p] ∧ BoxAt H b n ∧ n < 10000000 ∧ H p = some (.tup [.int lo, .int hi]) ∧ p ≠ b ∧
  ∀ H' l ws, Kp [b] H H' → BoxAt H' b (n + 60) → l ≠ b → H' l = some (.lst ws) → ws.length = 4 → (∀ v ∈ ws, Kt b H' v) → Q (.ref l) H'
theorem sign_len (c : Nat) : (⟨#[c]⟩ : Str).length = 1 := rfl
theorem str_at {z : Str} {i : Int} (h0 : 0 ≤ i) (h1 : i < z.length) : ∃ c, atI z.cps.toList i = some c := by
  obtain ⟨j, rfl⟩ : ∃ j : Nat, i = j := ⟨i.toNat, by omega⟩
  have hj : j < z.cps.toList.length := by
    have : z.cps.toList.length = z.length := by simp [Str.length]
    omega
  exact ⟨z.cps.toList[j], atI_nat (List.getElem?_eq_getElem hj)⟩
section
variable {P : Program} {w : World} {K : PySem.W.Frag} {mg : Str → Option Value} {base : Heap}
theorem ok_page (T : Tx K mg) {fd : FuncData} (F : Fun K "_law_page" "_law_page" s__law_page (He.ga K "_law_page") fd) : FnG P w K mg base 1 (He.ga K "_law_page") fd [] spPage := by
  refine FnG.of F sc__law_page (fun vs H Q E h => ?_) (fun cdv A outer s H vs Q E hr h => ?_)
  · obtain ⟨rfl, _⟩ := h; rfl
  · obtain ⟨rfl, q⟩ := h
    refine ⟨_, pss_cons (ps_set (i := 0) sc__law_page.nd rfl (by first | exact Or.inl rfl | exact Or.inr rfl) (pe_str))
      (pss_one (ps_ret (pe_op op_add_str (pv 0) (pe_str)))), ?_⟩
    exact ⟨_, rfl, _, _, rfl, rfl, by decide +kernel, q _ (by decide +kernel)⟩
theorem ok_bounds (T : Tx K mg) {fd : FuncData} (F : Fun K "_law_bounds" "_law_bounds" s__law_bounds (He.ga K "_law_bounds") fd) (c__law_take : Cal P w K mg base 1 "_law_take" spTake) : FnG P w K mg base 2 (He.ga K "_law_bounds") fd ["_law_box_here"] spBounds := by
  refine FnG.of F sc__law_bounds (fun vs H Q E h => ?_) (fun cdv A outer s H vs Q E hr h => ?_)
  · obtain ⟨b, n, rfl, _⟩ := h; rfl
  · obtain ⟨b, n, rfl, hb, hn, q⟩ := h
    refine ⟨_, pss_cons (ps_set (i := 1) sc__law_bounds.nd rfl (by first | exact Or.inl rfl | exact Or.inr rfl) (gc c__law_take (hr.mono (by decide)) takes0 (pa_cons (pv 0) (pa_cons (pe_int) (pa_nil)))))
      (pss_cons (ps_set (i := 2) sc__law_bounds.nd rfl (by first | exact Or.inl rfl | exact Or.inr rfl) (gc c__law_take (hr.mono (by decide)) takes0 (pa_cons (pv 0) (pa_cons (pe_int) (pa_nil)))))
      (pss_cons (ps_set (i := 3) sc__law_bounds.nd rfl (by first | exact Or.inl rfl | exact Or.inr rfl) (pe_ix (kixL K) (pe_lst (pa_cons (pe_op op_sub (gc c__law_take (hr.mono (by decide)) takes0 (pa_cons (pv 0) (pa_cons (pe_int) (pa_nil)))) (pe_int)) (pa_cons (pe_op op_sub (pe_int) (pe_op op_pow (pe_int) (pe_int))) (pa_cons (pe_op op_sub (pe_op op_pow (pe_int) (pe_int)) (pe_int)) (pa_cons (pe_un un_neg (pe_int)) (pa_nil)))))) (pv 1) (fun _ _ => rfl)))
      (pss_one (ps_ret (pe_tup (pa_cons (pv 3) (pa_cons (pe_op op_add (pv 3) (pe_ix (kixL K) (pe_lst (pa_cons (pe_op op_sub (gc c__law_take (hr.mono (by decide)) takes0 (pa_cons (pv 0) (pa_cons (pe_int) (pa_nil)))) (pe_int)) (pa_cons (gc c__law_take (hr.mono (by decide)) takes0 (pa_cons (pv 0) (pa_cons (pe_int) (pa_nil)))) (pa_cons (pe_op op_mul (pe_int) (pe_op op_pow (pe_int) (pe_int))) (pa_nil))))) (pv 2) (fun _ _ => rfl))) (pa_nil)))))))), ?_⟩
    refine ⟨_, rfl, b, n, 4, rfl, hb, by omega, by decide, by decide, fun H1 way k1 hb1 w0 w1 => ?_⟩
    refine ⟨_, rfl, b, n + 1, 3, rfl, hb1, by omega, by decide, by decide, fun H2 wide k2 hb2 v0 v1 => ?_⟩
    refine ⟨_, rfl, b, n + 1 + 1, 9, rfl, hb2, by omega, by decide, by decide, fun H3 d k3 hb3 d0 d1 => ?_⟩
    refine ⟨_, _, rfl, rfl, _, _, rfl, rfl, ⟨by decide, by decide, by decide⟩, _, _, rfl, rfl, _, _, rfl, rfl, ⟨by decide, by decide, by decide⟩, _, _, rfl, rfl, _, rfl, (by show 4 ≤ sizeLine; decide), fun r hr => ?_⟩
    obtain ⟨lo, elo⟩ : ∃ lo : Int, atI [V.int (d - 4), V.int (1 - 10 ^ Int.toNat 29), V.int (10 ^ Int.toNat 29 - 9), V.int (-40)] way = some (.int lo) := by
      have hw : way = 0 ∨ way = 1 ∨ way = 2 ∨ way = 3 := by omega
      rcases hw with rfl | rfl | rfl | rfl <;> exact ⟨_, rfl⟩
    refine ⟨_, rfl, r, _, _, _, rfl, rfl, SqL.of upd_same, elo, ?_⟩
    have hb4 := hb3.new (o := .lst [V.int (d - 4), V.int (1 - 10 ^ Int.toNat 29), V.int (10 ^ Int.toNat 29 - 9), V.int (-40)]) hr
    have k4 := ((k1.kp.trans k2.kp).trans k3.kp).new (o := .lst [V.int (d - 4), V.int (1 - 10 ^ Int.toNat 29), V.int (10 ^ Int.toNat 29 - 9), V.int (-40)]) hr
    generalize L2.upd H3 r (.lst [V.int (d - 4), V.int (1 - 10 ^ Int.toNat 29), V.int (10 ^ Int.toNat 29 - 9), V.int (-40)]) = H4 at *
    refine ⟨_, rfl, _, rfl, _, rfl, b, n + 1 + 1 + 1, 8, rfl, hb4, by omega, by decide, by decide, fun H5 e k5 hb5 e0 e1 => ?_⟩
    refine ⟨_, _, rfl, rfl, _, rfl, b, n + 1 + 1 + 1 + 1, 1000, rfl, hb5, by omega, by decide, by decide, fun H6 f k6 hb6 f0 f1 => ?_⟩
    refine ⟨_, _, rfl, rfl, ⟨by decide, by decide, by decide⟩, _, _, rfl, rfl, .inl ⟨by decide, by decide⟩, (by show 3 ≤ sizeLine; decide), fun r2 hr2 => ?_⟩
    obtain ⟨up, eup⟩ : ∃ up : Int, atI [V.int (e - 2), V.int f, V.int (2 * 10 ^ Int.toNat 29)] wide = some (.int up) := by
      have hw : wide = 0 ∨ wide = 1 ∨ wide = 2 := by omega
      rcases hw with rfl | rfl | rfl <;> exact ⟨_, rfl⟩
    refine ⟨_, rfl, r2, _, _, _, rfl, rfl, SqL.of upd_same, eup, _, _, rfl, rfl, (by show 2 ≤ sizeLine; decide), fun p hp => ?_⟩
    obtain ⟨x', y', c', ebx, _⟩ := id (hb6.new (o := .lst [V.int (e - 2), V.int f, V.int (2 * 10 ^ Int.toNat 29)]) hr2)
    exact q _ p lo (lo + up) ((((k4.trans k5.kp).trans k6.kp).new hr2).new hp) ((((hb6.new hr2).new hp)).more (by omega)) (ne_of_none ebx hp).symm upd_same
theorem ok_text (T : Tx K mg) {fd : FuncData} (F : Fun K "_law_text" "_law_text" s__law_text (He.ga K "_law_text") fd) (c__law_take : Cal P w K mg base 1 "_law_take" spTake) (c__law_page : Cal P w K mg base 1 "_law_page" spPage) : FnG P w K mg base 2 (He.ga K "_law_text") fd ["_law_box_here"] spText := by
  refine FnG.of F sc__law_text (fun vs H Q E h => ?_) (fun cdv A outer s H vs Q E hr h => ?_)
  · obtain ⟨b, n, rfl, _⟩ := h; rfl
  · obtain ⟨b, n, rfl, hb, hn, q⟩ := h
    refine ⟨_, pss_cons (ps_set (i := 1) sc__law_text.nd rfl (by first | exact Or.inl rfl | exact Or.inr rfl) (pe_cmpR op_eq (gc c__law_take (hr.mono (by decide)) takes0 (pa_cons (pv 0) (pa_cons (pe_int) (pa_nil)))) (pe_int) (by first | exact nomark _ | rfl)))
      (pss_cons (ps_set (i := 2) sc__law_text.nd rfl (by first | exact Or.inl rfl | exact Or.inr rfl) (pe_cmpR op_eq (gc c__law_take (hr.mono (by decide)) takes0 (pa_cons (pv 0) (pa_cons (pe_int) (pa_nil)))) (pe_int) (by first | exact nomark _ | rfl)))
      (pss_cons (ps_set (i := 3) sc__law_text.nd rfl (by first | exact Or.inl rfl | exact Or.inr rfl) (gc c__law_take (hr.mono (by decide)) takes0 (pa_cons (pv 0) (pa_cons (pe_int) (pa_nil)))))
      (pss_cons (ps_set (i := 4) sc__law_text.nd rfl (by first | exact Or.inl rfl | exact Or.inr rfl) (pe_str))
      (pss_cons (ps_set (i := 5) sc__law_text.nd rfl (by first | exact Or.inl rfl | exact Or.inr rfl) (pe_ix (kixL K) (pe_lst (pa_cons (pe_str) (pa_cons (gc0 c__law_page (hr.mono (by decide)) takes0) (pa_nil)))) (pe_callTy call_int1 (by rfl) T.z_int (by decide +kernel) (pa_cons (pv 2) (pa_nil))) (fun _ _ => rfl)))
      (pss_cons (ps_for (passes_of rfl) rfl (pi_range1 rfl T.z_range (pa_cons (pv 3) (pa_nil))) (pg_name (i := 6) sc__law_text.nd rfl (by first | exact Or.inl rfl | exact Or.inr rfl))
        (pss_one (ps_set (i := 4) sc__law_text.nd rfl (by first | exact Or.inl rfl | exact Or.inr rfl) (pe_op op_add_str (pv 4) (pe_ix ix_str (pv 5) (gc c__law_take (hr.mono (by decide)) takes0 (pa_cons (pv 0) (pa_cons (pe_callB call_len_str (by rfl) T.z_len PySem.boot_len (pa_cons (pv 5) (pa_nil))) (pa_nil)))) (fun _ _ => rfl))))))
      (pss_cons (ps_set (i := 7) sc__law_text.nd rfl (by first | exact Or.inl rfl | exact Or.inr rfl) (gc c__law_take (hr.mono (by decide)) takes0 (pa_cons (pv 0) (pa_cons (pe_op op_add (pv 3) (pe_int)) (pa_nil)))))
      (pss_cons (ps_if (pt_val (pv 1)) (pss_cons (ps_set (i := 8) sc__law_text.nd rfl (by first | exact Or.inl rfl | exact Or.inr rfl) (pe_ix ix_str (pe_op op_add_str (gc0 c__law_page (hr.mono (by decide)) takes0) (pe_str)) (gc c__law_take (hr.mono (by decide)) takes0 (pa_cons (pv 0) (pa_cons (pe_int) (pa_nil)))) (fun _ _ => rfl)))
      (pss_one (ps_set (i := 4) sc__law_text.nd rfl (by first | exact Or.inl rfl | exact Or.inr rfl) (pe_op op_add_str (pe_op op_add_str (pe_slice sl_str (pv 4) (po_none) (po_some (pv 7))) (pv 8)) (pe_slice sl_str (pv 4) (po_some (pe_op op_add (pv 7) (gc c__law_take (hr.mono (by decide)) takes0 (pa_cons (pv 0) (pa_cons (pe_int) (pa_nil)))))) (po_none)))))) (pss_nil))
      (pss_one (ps_ret (pv 4)))))))))), ?_⟩
    refine ⟨_, rfl, b, n, 2, rfl, hb, by omega, by decide, by decide, fun H1 d1 k1 hb1 _ _ => ⟨rfl, ?_⟩⟩
    refine ⟨_, rfl, b, n + 1, 4, rfl, hb1, by omega, by decide, by decide, fun H2 d2 k2 hb2 _ _ => ⟨rfl, ?_⟩⟩
    refine ⟨_, rfl, b, n + 1 + 1, 9, rfl, hb2, by omega, by decide, by decide, fun H3 size k3 hb3 s0 s1 => ?_⟩
    generalize hsp : decide (V.int d1 = V.int 0) = spoilt
    generalize hwi : decide (V.int d2 = V.int 0) = wild
    refine ⟨rfl, fun pg hpg => ⟨(by show 2 ≤ sizeLine; decide), fun r hr => ?_⟩⟩
    obtain ⟨sg, esg, lsg⟩ : ∃ sg : Str, atI [V.str "abcdefghijklmnopqrstuvwxyz", V.str pg] (if wild = true then 1 else 0) = some (.str sg) ∧ (0 < sg.length ∧ sg.length ≤ 95) := by
      cases wild with
      | true => exact ⟨pg, rfl, by omega, by omega⟩
      | false => exact ⟨_, rfl, by decide +kernel, by decide +kernel⟩
    refine ⟨_, rfl, .inr ⟨_, rfl, r, _, _, _, rfl, rfl, SqL.of upd_same, esg, ?_⟩⟩
    have k4 := ((k1.kp.trans k2.kp).trans k3.kp).new (o := .lst [V.str "abcdefghijklmnopqrstuvwxyz", V.str pg]) hr
    have hb4 := hb3.new (o := .lst [V.str "abcdefghijklmnopqrstuvwxyz", V.str pg]) hr
    generalize L2.upd H3 r (.lst [V.str "abcdefghijklmnopqrstuvwxyz", V.str pg]) = H4 at *
    refine ⟨_, rfl, _, rfl, by omega, by omega, for_range (lo := 0) (n := _) (fun i σ H' => ∃ (z : Str) (v6 : Option V), σ = [some (.ref b), some (.bl spoilt), some (.bl wild), some (.int size), some (.str z), some (.str sg), v6, none, none] ∧ z.length = i ∧ Kp [b] H H' ∧ BoxAt H' b (n + 3 + i)) ⟨_, _, rfl, rfl, k4, hb4.more (by omega)⟩ ?_ ?_⟩
    · rintro i σ H5 hi ⟨z, v6, rfl, hz, k5, hb5⟩
      have hi9 : i < 9 := by omega
      have h95 : (95 : Nat) ≤ sizeLine := by decide
      refine ⟨_, rfl, _, rfl, _, rfl, _, rfl, sg, rfl, by omega, b, _, _, rfl, hb5, by omega, by omega, Int.lt_of_le_of_lt (by omega : (sg.length : Int) ≤ 95) (by decide), fun H6 d k6 hb6 e0 e1 => ?_⟩
      obtain ⟨c, hc⟩ := str_at e0 e1
      refine ⟨sg, d, c, rfl, rfl, by omega, hc, _, _, rfl, rfl, ?_, ?_⟩
      · rw [sign_len]; omega
      · refine ⟨_, _, rfl, ?_, k5.trans k6.kp, hb6.more (by omega)⟩
        rw [PySem.Str.length_append, sign_len]; omega
    · rintro σ H5 ⟨z, v6, rfl, hz, k5, hb5⟩
      have h95 : (200 : Nat) ≤ sizeLine := by decide
      refine ⟨_, rfl, _, rfl, _, _, rfl, rfl, b, _, _, rfl, hb5, by omega, by omega, Int.lt_of_le_of_lt (by omega : size + 1 ≤ 95) (by decide), fun H6 at_ k6 hb6 a0 a1 => ?_⟩
      refine ⟨_, rfl, _, rfl, ?_⟩
      refine iteB (fun _ => ?_) (fun _ => ?_)
      · refine ⟨rfl, fun pg2 hpg2 => ⟨_, _, rfl, rfl, ?_, ?_⟩⟩
        · show pg2.length + 1 ≤ sizeLine; omega
        have hl2 : (pg2 ++ ("\n" : Str)).length = 95 := by rw [PySem.Str.length_append, hpg2]; rfl
        refine ⟨_, rfl, b, _, 95, rfl, hb6, by omega, by decide, by decide, fun H7 d k7 hb7 e0 e1 => ?_⟩
        obtain ⟨c, hc⟩ := str_at (z := pg2 ++ ("\n" : Str)) e0 (by rw [hl2]; omega)
        refine ⟨_, d, c, rfl, rfl, by omega, hc, ?_⟩
        refine ⟨_, rfl, _, rfl, _, rfl, z, rfl, by omega, _, rfl, _, _, rfl, rfl, ?_, _, rfl, _, rfl, _, rfl, b, _, 2, rfl, hb7, by omega, by decide, by decide, fun H8 d8 k8 hb8 _ _ => ?_⟩
        · have := cutS_len z none (some at_)
          rw [sign_len]; omega
        · have h1 := cutS_len z none (some at_)
          have h2 := cutS_len z (some (at_ + d8)) none
          refine ⟨_, _, rfl, rfl, _, rfl, z, rfl, by omega, _, _, rfl, rfl, ?_, ?_⟩
          · rw [PySem.Str.length_append, sign_len]; omega
          · refine ⟨_, rfl, q H8 _ (((k5.trans k6.kp).trans k7.kp).trans k8.kp) (hb8.more (by omega)) ?_⟩
            rw [PySem.Str.length_append, PySem.Str.length_append, sign_len]; omega
      · exact ⟨_, rfl, q H6 z (k5.trans k6.kp) (hb6.more (by omega)) (by omega)⟩
end

end Lw
namespace Lw
open PySem PySem.Spec L2 FG
open PyProof.Rows hiding St
section
variable {P : Program} {w : World} {K : PySem.W.Frag} {mg : Str → Option Value} {base : Heap}
theorem ok_other (T : Tx K mg) {fd : FuncData} (F : Fun K "_law_other" "_law_other" s__law_other (He.ga K "_law_other") fd) (c__law_take : Cal P w K mg base 1 "_law_take" spTake) : FnG P w K mg base 2 (He.ga K "_law_other") fd ["_law_box_here"] spOther := by
  refine FnG.of F sc__law_other (fun vs H Q E h => ?_) (fun cdv A outer s H vs Q E hr h => ?_)
  · obtain ⟨b, n, rfl, _⟩ := h; rfl
  · obtain ⟨b, n, rfl, hb, hn, q⟩ := h
    refine ⟨_, pss_cons (ps_set (i := 1) sc__law_other.nd rfl (by first | exact Or.inl rfl | exact Or.inr rfl) (pe_lst (pa_cons (pe_non) (pa_cons (pe_bl) (pa_cons (pe_bl) (pa_cons (pe_str) (pa_cons (pe_un un_neg (pe_int)) (pa_cons (pe_lst (pa_cons (pe_int) (pa_nil))) (pa_cons (pe_tup (pa_cons (pe_int) (pa_nil))) (pa_cons (pe_dnewK) (pa_cons (pe_str) (pa_cons (pe_lst (pa_cons (pe_int) (pa_cons (pe_int) (pa_nil)))) (pa_cons (pe_tup (pa_cons (pe_bl) (pa_cons (pe_bl) (pa_nil)))) (pa_nil))))))))))))))
      (pss_one (ps_ret (pe_ix (kixL K) (pv 1) (gc c__law_take (hr.mono (by decide)) takes0 (pa_cons (pv 0) (pa_cons (pe_int) (pa_nil)))) (fun _ _ => rfl)))), ?_⟩
    refine ⟨_, rfl, (by show 1 ≤ sizeLine; decide), fun l1 h1 => ⟨(by show 1 ≤ sizeLine; decide), fun t1 h2 => fun d1 h3 => ⟨(by show 2 ≤ sizeLine; decide), fun l2 h4 => ⟨(by show 2 ≤ sizeLine; decide), fun t2 h5 => ⟨(by show 11 ≤ sizeLine; decide), fun r h6 => ?_⟩⟩⟩⟩⟩
    have k1 := Kp.refl (S := [b]) (H := H) |>.new (o := .lst [.int 0]) h1
    have b1 := hb.new (o := .lst [.int 0]) h1
    have e1 : L2.upd H l1 (.lst [.int 0]) l1 = some (.lst [.int 0]) := upd_same
    have n1 : l1 ≠ b := by obtain ⟨_, _, _, eb, _⟩ := hb; exact (ne_of_none eb h1).symm
    generalize L2.upd H l1 (.lst [.int 0]) = H1 at *
    have k2 := k1.new (o := .tup [.int 0]) h2
    have b2 := b1.new (o := .tup [.int 0]) h2
    have k12 := Kp.refl (S := []) (H := H1) |>.new (o := .tup [.int 0]) h2
    have e2 : L2.upd H1 t1 (.tup [.int 0]) t1 = some (.tup [.int 0]) := upd_same
    have n2 : t1 ≠ b := by obtain ⟨_, _, _, eb, _⟩ := b1; exact (ne_of_none eb h2).symm
    generalize L2.upd H1 t1 (.tup [.int 0]) = H2 at *
    have k3 := k2.new (o := .dK []) h3
    have b3 := b2.new (o := .dK []) h3
    have k23 := Kp.refl (S := []) (H := H2) |>.new (o := .dK []) h3
    have e3 : L2.upd H2 d1 (.dK []) d1 = some (.dK []) := upd_same
    have n3 : d1 ≠ b := by obtain ⟨_, _, _, eb, _⟩ := b2; exact (ne_of_none eb h3).symm
    generalize L2.upd H2 d1 (.dK []) = H3 at *
    have k4 := k3.new (o := .lst [.int 0, .int 1]) h4
    have b4 := b3.new (o := .lst [.int 0, .int 1]) h4
    have k34 := Kp.refl (S := []) (H := H3) |>.new (o := .lst [.int 0, .int 1]) h4
    have e4 : L2.upd H3 l2 (.lst [.int 0, .int 1]) l2 = some (.lst [.int 0, .int 1]) := upd_same
    have n4 : l2 ≠ b := by obtain ⟨_, _, _, eb, _⟩ := b3; exact (ne_of_none eb h4).symm
    generalize L2.upd H3 l2 (.lst [.int 0, .int 1]) = H4 at *
    have k5 := k4.new (o := .tup [.bl true, .bl false]) h5
    have b5 := b4.new (o := .tup [.bl true, .bl false]) h5
    have k45 := Kp.refl (S := []) (H := H4) |>.new (o := .tup [.bl true, .bl false]) h5
    have e5 : L2.upd H4 t2 (.tup [.bl true, .bl false]) t2 = some (.tup [.bl true, .bl false]) := upd_same
    have n5 : t2 ≠ b := by obtain ⟨_, _, _, eb, _⟩ := b4; exact (ne_of_none eb h5).symm
    generalize L2.upd H4 t2 (.tup [.bl true, .bl false]) = H5 at *
    have nr : r ≠ b := by obtain ⟨_, _, _, eb, _⟩ := b5; exact (ne_of_none eb h6).symm
    have b6 := b5.new (o := .lst [V.non, .bl true, .bl false, .str "1", .int (-1), .ref l1, .ref t1, .ref d1, .str "", .ref l2, .ref t2]) h6
    have k6 := k5.new (o := .lst [V.non, .bl true, .bl false, .str "1", .int (-1), .ref l1, .ref t1, .ref d1, .str "", .ref l2, .ref t2]) h6
    have k56 := Kp.refl (S := []) (H := H5) |>.new (o := .lst [V.non, .bl true, .bl false, .str "1", .int (-1), .ref l1, .ref t1, .ref d1, .str "", .ref l2, .ref t2]) h6
    have er : L2.upd H5 r (.lst [V.non, .bl true, .bl false, .str "1", .int (-1), .ref l1, .ref t1, .ref d1, .str "", .ref l2, .ref t2]) r = some (.lst [V.non, .bl true, .bl false, .str "1", .int (-1), .ref l1, .ref t1, .ref d1, .str "", .ref l2, .ref t2]) := upd_same
    refine ⟨_, rfl, _, rfl, b, n, 11, rfl, b6, by omega, by decide, by decide, fun H7 d k7 b7 d0 d1' => ?_⟩
    generalize L2.upd H5 r (.lst [V.non, .bl true, .bl false, .str "1", .int (-1), .ref l1, .ref t1, .ref d1, .str "", .ref l2, .ref t2]) = H6 at *
    have er7 := (k7 r nr).trans er
    have fin : ∀ v, atI [V.non, .bl true, .bl false, .str "1", .int (-1), .ref l1, .ref t1, .ref d1, .str "", .ref l2, .ref t2] d = some v → Kt b H6 v → _ := fun v ev kt => (⟨r, _, _, _, rfl, rfl, SqL.of er7, ev, q H7 v (k6.trans k7.kp) b7 (kt.kpb k7.kp b6)⟩ : (rIxL K) (.ref r) (.int d) H7 Q)
    have k46 := k45.trans k56
    have k36 := k34.trans k46
    have k26 := k23.trans k36
    have k16 := k12.trans k26
    have hd : d = 0 ∨ d = 1 ∨ d = 2 ∨ d = 3 ∨ d = 4 ∨ d = 5 ∨ d = 6 ∨ d = 7 ∨ d = 8 ∨ d = 9 ∨ d = 10 := by omega
    rcases hd with rfl | rfl | rfl | rfl | rfl | rfl | rfl | rfl | rfl | rfl | rfl
    · exact fin _ rfl .non
    · exact fin _ rfl (.bl true)
    · exact fin _ rfl (.bl false)
    · exact fin _ rfl (.str _ (by decide))
    · exact fin _ rfl (.int _)
    · exact fin _ rfl (.lst (k16 _ _ e1 (by simp)) n1)
    · exact fin _ rfl (.tup (k26 _ _ e2 (by simp)) n2 (by decide) fun x hx => by
        rw [List.mem_singleton] at hx; subst hx; exact ⟨.int 0, fun c => by cases c⟩)
    · exact fin _ rfl (.dK (k36 _ _ e3 (by simp)) n3)
    · exact fin _ rfl (.str _ (by decide))
    · exact fin _ rfl (.lst (k46 _ _ e4 (by simp)) n4)
    · exact fin _ rfl (.tup (k56 _ _ e5 (by simp)) n5 (by decide) fun x hx => by
        simp only [List.mem_cons, List.not_mem_nil, or_false] at hx
        rcases hx with rfl | rfl
        · exact ⟨.bl _, fun c => by cases c⟩
        · exact ⟨.bl _, fun c => by cases c⟩)
end

end Lw
namespace Lw
open PySem PySem.Spec L2 FG
open PyProof.Rows hiding St
theorem cut_mem {xs : List V} {lo hi : Option Int} {x : V} (h : x ∈ cutV xs lo hi) : x ∈ xs := by
  unfold cutV at h
  exact List.mem_of_mem_drop (List.mem_of_mem_take h)
def spLaw (K : PySem.W.Frag) : Sp := fun vs H Q _ => ∃ (a : Addr) (ns : List Int), vs = [.ref a] ∧ ns.length ≤ 63 ∧ Scr K H a ns ∧ ∀ H', Q (.bl true) H'
def spRightK : Sp := fun vs H Q _ => ∃ (p : Addr) (v : V) (lo hi : Int), vs = [.ref p, v] ∧ H p = some (.tup [.int lo, .int hi]) ∧ Th H v ∧ ∀ H', Kp [] H H' → Q (.bl true) H'
section
variable {P : Program} {w : World} {K : PySem.W.Frag} {mg : Str → Option Value} {base : Heap}
theorem ok_row (T : Tx K mg) {fd : FuncData} (F : Fun K "_law_row" "_law_row" s__law_row (He.ga K "_law_row") fd) (c__law_take : Cal P w K mg base 1 "_law_take" spTake) (c__law_other : Cal P w K mg base 2 "_law_other" spOther) : FnG P w K mg base 3 (He.ga K "_law_row") fd ["_law_box_here"] spRow1 := by
  refine FnG.of F sc__law_row (fun vs H Q E h => ?_) (fun cdv A outer s H vs Q E hr h => ?_)
  · obtain ⟨b, n, rfl, _⟩ := h; rfl
  · obtain ⟨b, n, rfl, hb, hn, q⟩ := h
    have nbn : ∀ {H' : Hp} {c : Addr} {m : Int}, BoxAt H' b m → H' c = none → c ≠ b := fun x hc => by
      obtain ⟨_, _, _, e, _⟩ := x; exact (ne_of_none e hc).symm
    refine ⟨_, pss_cons (ps_set (i := 1) sc__law_row.nd rfl (by first | exact Or.inl rfl | exact Or.inr rfl) (pe_cmpR op_eq (gc c__law_take (hr.mono (by decide)) takes0 (pa_cons (pv 0) (pa_cons (pe_int) (pa_nil)))) (pe_int) (by first | exact nomark _ | rfl)))
      (pss_cons (ps_set (i := 2) sc__law_row.nd rfl (by first | exact Or.inl rfl | exact Or.inr rfl) (pe_int))
      (pss_cons (ps_if (pt_cmpR op_eq (gc c__law_take (hr.mono (by decide)) takes0 (pa_cons (pv 0) (pa_cons (pe_int) (pa_nil)))) (pe_int) (by first | exact nomark _ | rfl)) (pss_one (ps_set (i := 2) sc__law_row.nd rfl (by first | exact Or.inl rfl | exact Or.inr rfl) (gc c__law_take (hr.mono (by decide)) takes0 (pa_cons (pv 0) (pa_cons (pe_int) (pa_nil)))))) (pss_nil))
      (pss_cons (ps_set (i := 3) sc__law_row.nd rfl (by first | exact Or.inl rfl | exact Or.inr rfl) (pe_lst (pa_nil)))
      (pss_cons (ps_for (passes_of rfl) rfl (pi_range1 rfl T.z_range (pa_cons (pv 2) (pa_nil))) (pg_name (i := 4) sc__law_row.nd rfl (by first | exact Or.inl rfl | exact Or.inr rfl))
        (pss_cons (ps_set (i := 5) sc__law_row.nd rfl (by first | exact Or.inl rfl | exact Or.inr rfl) (gc c__law_take (hr.mono (by decide)) takes0 (pa_cons (pv 0) (pa_cons (pe_int) (pa_nil)))))
      (pss_one (ps_expr (kbm K PySem.F.plainAttrs_list PySem.F.slot_list_append PySem.F.type_list_append mt_append (pv 3) (pa_cons (pe_ix (kixL K) (pe_lst (pa_cons (pe_int) (pa_cons (pe_op op_pow (pe_int) (pe_int)) (pa_cons (gc c__law_take (hr.mono (by decide)) takes0 (pa_cons (pv 0) (pa_cons (pe_int) (pa_nil)))) (pa_nil))))) (pv 5) (fun _ _ => rfl)) (pa_nil)))))))
      (pss_cons (ps_set (i := 6) sc__law_row.nd rfl (by first | exact Or.inl rfl | exact Or.inr rfl) (gc c__law_take (hr.mono (by decide)) takes0 (pa_cons (pv 0) (pa_cons (pe_op op_add (pv 2) (pe_int)) (pa_nil)))))
      (pss_cons (ps_if (pt_val (pv 1)) (pss_one (ps_set (i := 3) sc__law_row.nd rfl (by first | exact Or.inl rfl | exact Or.inr rfl) (pe_op op_cat (pe_op op_cat (pe_slice (kslL K) (pv 3) (po_none) (po_some (pv 6))) (pe_lst (pa_cons (gc c__law_other (hr.mono (by decide)) takes0 (pa_cons (pv 0) (pa_nil))) (pa_nil)))) (pe_slice (kslL K) (pv 3) (po_some (pe_op op_add (pv 6) (pe_int))) (po_none))))) (pss_nil))
      (pss_cons (ps_if (pt_cmpR op_eq (gc c__law_take (hr.mono (by decide)) takes0 (pa_cons (pv 0) (pa_cons (pe_int) (pa_nil)))) (pe_int) (by first | exact nomark _ | rfl)) (pss_one (ps_ret (pv 3))) (pss_nil))
      (pss_one (ps_ret (pe_callTy (ktuple K) (by rfl) T.z_tuple (by decide +kernel) (pa_cons (pv 3) (pa_nil)))))))))))), ?_⟩
    refine ⟨_, rfl, b, n, 2, rfl, hb, by omega, by decide, by decide, fun H1 d1 k1 hb1 _ _ => ⟨rfl, ?_⟩⟩
    generalize hsp : decide (V.int d1 = V.int 0) = spoilt
    refine ⟨_, rfl, b, n + 1, 4, rfl, hb1, by omega, by decide, by decide, fun H2 d2 k2 hb2 _ _ => ⟨rfl, _, rfl, ?_⟩⟩
    have K2 := k1.kp.trans k2.kp
    refine iteB (fun _ => ⟨_, rfl, b, n + 1 + 1, 4, rfl, hb2, by omega, by decide, by decide, fun H3 mm k3 hb3' m0 m1 => ?_⟩) (fun _ => ?_)
    rotate_left
    obtain ⟨H3, rfl⟩ : ∃ H3, H3 = H2 := ⟨_, rfl⟩
    obtain ⟨m, hm⟩ : ∃ m : Int, m = 2 := ⟨_, rfl⟩
    have m0 : 0 ≤ m := by omega
    have m1 : m < 4 := by omega
    have K3 := K2
    have hb3 : BoxAt H3 b (n + 3) := hb2.more (by omega)
    rotate_left
    obtain ⟨m, hm⟩ : ∃ m : Int, m = mm := ⟨_, rfl⟩
    have m0 : 0 ≤ m := by omega
    have m1 : m < 4 := by omega
    have K3 := K2.trans k3.kp
    have hb3 : BoxAt H3 b (n + 3) := hb3'.more (by omega)
    all_goals
      refine ⟨by decide, fun l hl => ?_⟩
      have nl := nbn hb3 hl
      have nlb : ∀ c o, H c = some o → c ≠ b → c ≠ l := fun c o e n => ne_of_none (K3 c o e (by simpa using n)) hl
      have hbl := hb3.new (o := .lst []) hl
      refine ⟨_, rfl, _, rfl, by omega, by omega, for_range (lo := 0) (n := _) (fun i σ H' => ∃ (xs : List V) (v4 v5 : Option V), σ = [some (.ref b), some (.bl spoilt), some (.int m), some (.ref l), v4, v5, none] ∧ H' l = some (.lst xs) ∧ xs.length = i ∧ (∀ x ∈ xs, ∃ z, x = .int z) ∧ Kp [b] H H' ∧ BoxAt H' b (n + 3 + 2 * (i : Int))) ⟨[], _, _, by rw [hm]; rfl, upd_same, rfl, (fun x hx => by cases hx), K3.new hl, hbl.more (by omega)⟩ ?_ ?_⟩
      · rintro i σ H4 hi ⟨xs, v4, v5, rfl, hL, hxl, hx, K4, b4⟩
        have i4 : i < 4 := by omega
        refine ⟨_, rfl, b, _, 3, rfl, b4, by omega, by decide, by decide, fun H5 way k5 b5 w0 w1 => ?_⟩
        have hL5 := (k5 l nl).trans hL
        refine ⟨_, rfl, .inl ⟨rfl, _, SqL.of hL5⟩, _, _, rfl, rfl, ⟨by decide, by decide, by decide⟩, _, rfl, b, _, 9, rfl, b5, by omega, by decide, by decide, fun H6 d k6 b6 d0 d1 => ?_⟩
        have hL6 := (k6 l nl).trans hL5
        refine ⟨(by show 3 ≤ sizeLine; decide), fun r hr => ?_⟩
        obtain ⟨z, ez⟩ : ∃ z : Int, atI [V.int 0, V.int (10 ^ Int.toNat 29), V.int d] way = some (.int z) := by
          have hw : way = 0 ∨ way = 1 ∨ way = 2 := by omega
          rcases hw with rfl | rfl | rfl <;> exact ⟨_, rfl⟩
        have nlr : l ≠ r := ne_of_none hL6 hr
        have hL7 : L2.upd H6 r (.lst [V.int 0, V.int (10 ^ Int.toNat 29), V.int d]) l = some (.lst xs) := (upd_ne nlr).trans hL6
        have K7 := ((K4.trans k5.kp).trans k6.kp).new (o := .lst [V.int 0, V.int (10 ^ Int.toNat 29), V.int d]) hr
        have b7 := b6.new (o := .lst [V.int 0, V.int (10 ^ Int.toNat 29), V.int d]) hr
        have e7 : L2.upd H6 r (.lst [V.int 0, V.int (10 ^ Int.toNat 29), V.int d]) r = some (.lst [V.int 0, V.int (10 ^ Int.toNat 29), V.int d]) := upd_same
        generalize L2.upd H6 r (.lst [V.int 0, V.int (10 ^ Int.toNat 29), V.int d]) = H7 at *
        refine ⟨_, rfl, r, _, _, _, rfl, rfl, SqL.of e7, ez, ?_⟩
        have h9 : (9 : Nat) < sizeLine := by decide
        refine ⟨l, _, _, rfl, rfl, hL7, by omega, _, _, _, rfl, upd_same, by simp [hxl], ?_, ?_, ?_⟩
        · intro x hx2
          rcases List.mem_append.mp hx2 with g | g
          · exact hx x g
          · rw [List.mem_singleton] at g; exact ⟨z, g⟩
        · intro c o ec hc
          have nc : c ≠ b := by simpa using hc
          exact (upd_ne (nlb c o ec nc)).trans (K7 c o ec hc)
        · obtain ⟨x', y', c', eb, rest⟩ := b7.more (m := n + 3 + 2 * ((i + 1 : Nat) : Int)) (by omega)
          exact ⟨x', y', c', (upd_ne nl.symm).trans eb, rest⟩
      · rintro σ H4 ⟨xs, v4, v5, rfl, hL, hxl, hx, K4, b4⟩
        have h9 : (20 : Nat) < sizeLine := by decide
        have hs : ∀ x ∈ xs, Sh H4 x ∧ x ≠ .ref b := fun x m => by obtain ⟨z, rfl⟩ := hx x m; exact ⟨.int z, fun c => by cases c⟩
        refine ⟨_, rfl, _, rfl, _, _, rfl, rfl, b, _, _, rfl, b4, by omega, by omega, Int.lt_of_le_of_lt (by omega : _ ≤ (95 : Int)) (by decide), fun H5 at_ k5 b5 a0 a1 => ?_⟩
        have hL5 := (k5 l nl).trans hL
        have K5 := K4.trans k5.kp
        have xl : xs.length ≤ 3 := by omega
        refine ⟨_, rfl, _, rfl, ?_⟩
        refine iteB (fun _ => ?_) (fun _ => ?_)
        rotate_left
        obtain ⟨Hf, eHf⟩ : ∃ Hf, Hf = H5 := ⟨_, rfl⟩
        subst eHf
        obtain ⟨lf, elf⟩ : ∃ lf, lf = l := ⟨_, rfl⟩
        obtain ⟨zs, ez⟩ : ∃ zs, zs = xs := ⟨_, rfl⟩
        have bf : BoxAt Hf b (n + 20) := b5.more (by omega)
        have ef : Hf lf = some (.lst zs) := by rw [elf, ez]; exact hL5
        have zl : zs.length ≤ 20 := by rw [ez]; omega
        have hz : ∀ x ∈ zs, Sh Hf x ∧ x ≠ .ref b := fun x m => by rw [ez] at m; obtain ⟨z, rfl⟩ := hx x m; exact ⟨.int z, fun c => by cases c⟩
        have nf : lf ≠ b := by rw [elf]; exact nl
        have Kf := K5
        rotate_left
        refine ⟨_, rfl, _, rfl, _, rfl, l, xs, rfl, SqL.of hL5, fun p1 hp1 => ?_⟩
        have e1 : L2.upd H5 p1 (.lst (cutV xs none (some at_))) p1 = some (.lst (cutV xs none (some at_))) := upd_same
        have K6 := K5.new (o := .lst (cutV xs none (some at_))) hp1
        have b6 := b5.new (o := .lst (cutV xs none (some at_))) hp1
        have n1 := b5.ne hp1
        have l6 : L2.upd H5 p1 (.lst (cutV xs none (some at_))) l = some (.lst xs) := (upd_ne (ne_of_none hL5 hp1)).trans hL5
        generalize L2.upd H5 p1 (.lst (cutV xs none (some at_))) = H6 at *
        refine ⟨_, rfl, b, _, rfl, b6, by omega, fun H7 v k7 b7 kv => ⟨(by show 1 ≤ sizeLine; decide), fun p2 hp2 => ?_⟩⟩
        have e17 : H7 p1 = _ := k7 _ _ e1 (by simpa using n1)
        have l7 : H7 l = _ := k7 _ _ l6 (by simpa using nl)
        have K8 := (K6.trans k7).new (o := .lst [v]) hp2
        have b8 := b7.new (o := .lst [v]) hp2
        have kn8 := (Kp.refl (S := []) (H := H7)).new (o := .lst [v]) hp2
        have e28 : L2.upd H7 p2 (.lst [v]) p2 = some (.lst [v]) := upd_same
        generalize L2.upd H7 p2 (.lst [v]) = H8 at *
        have c1 := cutV_length xs none (some at_)
        have c2 := cutV_length xs (some (at_ + 1)) none
        refine ⟨p1, p2, _, _, rfl, rfl, kn8 _ _ e17 (by simp), e28, ?_, fun p3 hp3 => ?_⟩
        · simp only [List.length_cons, List.length_nil]; omega
        have l9 := kn8 _ _ l7 (by simp)
        have K9 := K8.new (o := .lst (cutV xs none (some at_) ++ [v])) hp3
        have b9 := b8.new (o := .lst (cutV xs none (some at_) ++ [v])) hp3
        have kn9 := (Kp.refl (S := []) (H := H8)).new (o := .lst (cutV xs none (some at_) ++ [v])) hp3
        have e39 : L2.upd H8 p3 (.lst (cutV xs none (some at_) ++ [v])) p3 = some (.lst (cutV xs none (some at_) ++ [v])) := upd_same
        generalize L2.upd H8 p3 (.lst (cutV xs none (some at_) ++ [v])) = H9 at *
        refine ⟨_, rfl, _, rfl, _, _, rfl, rfl, _, rfl, l, xs, rfl, SqL.of (kn9 _ _ l9 (by simp)), fun p4 hp4 => ?_⟩
        have K10 := K9.new (o := .lst (cutV xs (some (at_ + 1)) none)) hp4
        have b10 := b9.new (o := .lst (cutV xs (some (at_ + 1)) none)) hp4
        have kn10 := (Kp.refl (S := []) (H := H9)).new (o := .lst (cutV xs (some (at_ + 1)) none)) hp4
        have e410 : L2.upd H9 p4 (.lst (cutV xs (some (at_ + 1)) none)) p4 = some (.lst (cutV xs (some (at_ + 1)) none)) := upd_same
        generalize L2.upd H9 p4 (.lst (cutV xs (some (at_ + 1)) none)) = H10 at *
        refine ⟨p3, p4, _, _, rfl, rfl, kn10 _ _ e39 (by simp), e410, ?_, fun lf hp5 => ?_⟩
        · simp only [List.length_append, List.length_cons, List.length_nil]; omega
        have Kf := K10.new (o := .lst (cutV xs none (some at_) ++ [v] ++ cutV xs (some (at_ + 1)) none)) hp5
        have bf : BoxAt _ b (n + 20) := (b10.new (o := .lst (cutV xs none (some at_) ++ [v] ++ cutV xs (some (at_ + 1)) none)) hp5).more (by omega)
        have kn11 := (Kp.refl (S := []) (H := H10)).new (o := .lst (cutV xs none (some at_) ++ [v] ++ cutV xs (some (at_ + 1)) none)) hp5
        have nf := b10.ne hp5
        have ef : L2.upd H10 lf (.lst (cutV xs none (some at_) ++ [v] ++ cutV xs (some (at_ + 1)) none)) lf = some (.lst (cutV xs none (some at_) ++ [v] ++ cutV xs (some (at_ + 1)) none)) := upd_same
        generalize L2.upd H10 lf (.lst (cutV xs none (some at_) ++ [v] ++ cutV xs (some (at_ + 1)) none)) = Hf at *
        obtain ⟨zs, ez⟩ : ∃ zs, zs = cutV xs none (some at_) ++ [v] ++ cutV xs (some (at_ + 1)) none := ⟨_, rfl⟩
        rw [← ez] at ef
        have zl : zs.length ≤ 20 := by rw [ez]; simp only [List.length_append, List.length_cons, List.length_nil]; omega
        have hz : ∀ x ∈ zs, Sh Hf x ∧ x ≠ .ref b := fun x m => by
          have kk := ((kn8.trans kn9).trans kn10).trans kn11
          rw [ez, List.mem_append, List.mem_append] at m
          rcases m with (m | m) | m
          · obtain ⟨z, rfl⟩ := hx x (cut_mem m); exact ⟨.int z, fun c => by cases c⟩
          · rw [List.mem_singleton] at m; subst m; exact ⟨kv.th.sh.kp kk, kv.nb⟩
          · obtain ⟨z, rfl⟩ := hx x (cut_mem m); exact ⟨.int z, fun c => by cases c⟩
        have elf := rfl (a := lf)
        all_goals
          refine ⟨_, rfl, b, _, 8, rfl, bf, by omega, by decide, by decide, fun H12 d12 k12 b12 _ _ => ⟨rfl, _, rfl, ?_⟩⟩
          have ef12 : H12 lf = some (.lst zs) := (k12 lf nf).trans ef
          have K12 := Kf.trans k12.kp
          have bb : BoxAt H12 b (n + 30) := b12.more (by omega)
          refine iteB (fun _ => ?_) (fun _ => ?_)
          · refine ⟨_, by first | rfl | (rw [elf]; rfl), q H12 _ K12 bb (.lst ef12 nf)⟩
          · refine ⟨_, by first | rfl | (rw [elf]; rfl), lf, zs, rfl, .inl ⟨SqL.of ef12, fun t ht => ?_⟩⟩
            refine q _ _ (K12.new ht) (bb.new ht) (.tup upd_same (bb.ne ht) (by omega) fun x m => ?_)
            obtain ⟨sx, nx⟩ := hz x m
            exact ⟨((sx.kpb k12.kp bf nx).kp (Kp.refl.new ht)), nx⟩
theorem ok_things (T : Tx K mg) {fd : FuncData} (F : Fun K "_law_things" "_law_things" s__law_things (He.ga K "_law_things") fd) (c__law_take : Cal P w K mg base 1 "_law_take" spTake) (c__law_text : Cal P w K mg base 2 "_law_text" spText)
    (c__law_row : Cal P w K mg base 3 "_law_row" spRow1) (c__law_other : Cal P w K mg base 2 "_law_other" spOther) : FnG P w K mg base 4 (He.ga K "_law_things") fd ["_law_box_here", "_law_bounds_here"] spThings := by
  refine FnG.of F sc__law_things (fun vs H Q E h => ?_) (fun cdv A outer s H vs Q E hr h => ?_)
  · obtain ⟨b, p, n, lo, hi, rfl, _⟩ := h; rfl
  · obtain ⟨b, p, n, lo, hi, rfl, hb, hn, hp, npb, q⟩ := h
    refine ⟨_, pss_cons (ps_asg (pv 1) (kgT K rfl (pgs_cons (pg_name (i := 2) sc__law_things.nd rfl (by first | exact Or.inl rfl | exact Or.inr rfl)) (pgs_cons (pg_name (i := 3) sc__law_things.nd rfl (by first | exact Or.inl rfl | exact Or.inr rfl)) (pgs_nil)))))
      (pss_cons (ps_set (i := 4) sc__law_things.nd rfl (by first | exact Or.inl rfl | exact Or.inr rfl) (pe_ix (kixL K) (pe_lst (pa_cons (pe_op op_sub (pv 2) (pe_int)) (pa_cons (pv 2) (pa_cons (pe_op op_add (pv 2) (pe_int)) (pa_cons (pe_op op_sub (pv 3) (pe_int)) (pa_cons (pv 3) (pa_cons (pe_op op_add (pv 3) (pe_int)) (pa_cons (pe_op op_fdiv (pe_op op_add (pv 2) (pv 3)) (pe_int)) (pa_cons (pe_op op_sub (pe_int) (pv 3)) (pa_nil)))))))))) (gc c__law_take (hr.mono (by decide)) takes0 (pa_cons (pv 0) (pa_cons (pe_int) (pa_nil)))) (fun _ _ => rfl)))
      (pss_one (ps_ret (pe_lst (pa_cons (pv 4) (pa_cons (gc c__law_text (hr.mono (by decide)) takes0 (pa_cons (pv 0) (pa_nil))) (pa_cons (gc c__law_row (hr.mono (by decide)) takes0 (pa_cons (pv 0) (pa_nil))) (pa_cons (gc c__law_other (hr.mono (by decide)) takes0 (pa_cons (pv 0) (pa_nil))) (pa_nil))))))))), ?_⟩
    refine ⟨_, rfl, p, _, rfl, SqT.of hp, rfl, _, _, rfl, _, _, rfl, rfl, ?_⟩
    refine ⟨_, rfl, _, _, rfl, rfl, _, rfl, _, rfl, _, _, rfl, rfl, _, rfl, _, _, rfl, rfl, _, rfl, _, rfl, _, _, rfl, rfl, _, rfl, _, rfl, _, _, rfl, rfl, _, _, rfl, rfl, ⟨by decide, by decide⟩, _, rfl, _, _, rfl, rfl, (by show 8 ≤ sizeLine; decide), fun r hr => ?_⟩
    have h1 := hb.new (o := .lst [V.int (lo - 1), .int lo, .int (lo + 1), .int (hi - 1), .int hi, .int (hi + 1), .int ((lo + hi) / 2), .int (0 - hi)]) hr
    have k1 := (Kp.refl (S := [b]) (H := H)).new (o := .lst [V.int (lo - 1), .int lo, .int (lo + 1), .int (hi - 1), .int hi, .int (hi + 1), .int ((lo + hi) / 2), .int (0 - hi)]) hr
    refine ⟨_, rfl, b, n, 8, rfl, h1, by omega, by decide, by decide, fun H2 d k2 hb2 d0 d1 => ?_⟩
    obtain ⟨z, ez⟩ : ∃ z : Int, atI [V.int (lo - 1), .int lo, .int (lo + 1), .int (hi - 1), .int hi, .int (hi + 1), .int ((lo + hi) / 2), .int (0 - hi)] d = some (.int z) := by
      have hw : d = 0 ∨ d = 1 ∨ d = 2 ∨ d = 3 ∨ d = 4 ∨ d = 5 ∨ d = 6 ∨ d = 7 := by omega
      rcases hw with rfl | rfl | rfl | rfl | rfl | rfl | rfl | rfl <;> exact ⟨_, rfl⟩
    have nrb : r ≠ b := by obtain ⟨_, _, _, e, _⟩ := id hb; exact (ne_of_none e hr).symm
    refine ⟨r, _, _, _, rfl, rfl, SqL.of ((k2 r nrb).trans upd_same), ez, ?_⟩
    have K2 := k1.trans k2.kp
    refine ⟨_, rfl, _, rfl, b, _, rfl, hb2, by omega, fun H3 t k3 hb3 ht => ⟨_, rfl, b, _, rfl, hb3, by omega, fun H4 u k4 hb4 ku => ⟨_, rfl, b, _, rfl, hb4, by omega, fun H5 v k5 hb5 kv => ⟨(by show 4 ≤ sizeLine; decide), fun l hl => ?_⟩⟩⟩⟩
    have nlb : l ≠ b := by obtain ⟨_, _, _, e, _⟩ := id hb5; exact (ne_of_none e hl).symm
    refine q _ l _ ((((K2.trans k3).trans k4).trans k5).new hl) ((hb5.new hl).more (by omega)) nlb upd_same rfl fun x hx => ?_
    have kn : Kp [] H5 (L2.upd H5 l (.lst [V.int z, .str t, u, v])) := Kp.refl.new hl
    simp only [List.mem_cons, List.not_mem_nil, or_false] at hx
    rcases hx with rfl | rfl | rfl | rfl
    · exact .int z
    · exact .str t (Nat.le_trans ht (by decide))
    · exact (ku.kpb k5 hb4).kp kn
    · exact kv.kp kn
theorem ok_right (T : Tx K mg) {fd : FuncData} (F : Fun K "_law_right" "_law_right" s__law_right (He.ga K "_law_right") fd) (c_is_whole : Cal P w K mg base 2 "is_whole" spWholeG) (c_is_name : Cal P w K mg base 1 "is_name" spName) (c_is_pair : Cal P w K mg base 2 "is_pair" spPair)
    (c__law_is_number : Cal P w K mg base 1 "_law_is_number" spNumG) (c__law_is_name : Cal P w K mg base 1 "_law_is_name" spName) (c__law_is_pair : Cal P w K mg base 2 "_law_is_pair" spPair) : FnG P w K mg base 3 (He.ga K "_law_right") fd ["_law_bounds_here", "_law_thing"] spRightK := by
  refine FnG.of F sc__law_right (fun vs H Q E h => ?_) (fun cdv A outer s H vs Q E hr h => ?_)
  · obtain ⟨p, v, lo, hi, rfl, _⟩ := h; rfl
  · obtain ⟨p, v, lo, hi, rfl, hp, th, q⟩ := h
    refine ⟨_, pss_cons (ps_asg (pv 0) (kgT K rfl (pgs_cons (pg_name (i := 2) sc__law_right.nd rfl (by first | exact Or.inl rfl | exact Or.inr rfl)) (pgs_cons (pg_name (i := 3) sc__law_right.nd rfl (by first | exact Or.inl rfl | exact Or.inr rfl)) (pgs_nil)))))
      (pss_cons (ps_set (i := 4) sc__law_right.nd rfl (by first | exact Or.inl rfl | exact Or.inr rfl) (pe_and (gc c__law_is_number (hr.mono (by decide)) takes0 (pa_cons (pv 1) (pa_nil))) (pe_one (pe_chain op_le op_le (pv 2) (pv 1) (pv 3)))))
      (pss_cons (ps_for (passes_of rfl) rfl (pi_range1 rfl T.z_range (pa_cons (pe_int) (pa_nil))) (pg_name (i := 5) sc__law_right.nd rfl (by first | exact Or.inl rfl | exact Or.inr rfl))
        (pss_cons (ps_if (pt_cmpR op_ne (krepr K hr T.z_repr (gc c_is_whole (hr.mono (by decide)) takes0 (pa_cons (pv 1) (pa_cons (pv 2) (pa_cons (pv 3) (pa_nil)))))) (krepr K hr T.z_repr (pv 4)) (by first | exact nomark _ | rfl)) (pss_one (ps_ret (pe_bl))) (pss_nil))
      (pss_one (ps_if (PW.pt (pw_or (pt_cmpR op_ne (krepr K hr T.z_repr (gc c_is_name (hr.mono (by decide)) takes0 (pa_cons (pv 1) (pa_nil)))) (krepr K hr T.z_repr (gc c__law_is_name (hr.mono (by decide)) takes0 (pa_cons (pv 1) (pa_nil)))) (by first | exact nomark _ | rfl)) (pw_or1 (pt_cmpR op_ne (krepr K hr T.z_repr (gc c_is_pair (hr.mono (by decide)) takes0 (pa_cons (pv 1) (pa_nil)))) (krepr K hr T.z_repr (gc c__law_is_pair (hr.mono (by decide)) takes0 (pa_cons (pv 1) (pa_nil)))) (by first | exact nomark _ | rfl))))) (pss_one (ps_ret (pe_bl))) (pss_nil)))))
      (pss_one (ps_ret (pe_bl))))), ?_⟩
    refine ⟨_, rfl, p, _, rfl, SqT.of hp, rfl, _, _, rfl, _, _, rfl, rfl, ?_⟩
    refine ⟨_, rfl, v, rfl, th.sh, _, rfl, ?_⟩
    obtain ⟨c, hc⟩ : ∃ c, c = wholeV v lo hi := ⟨_, rfl⟩
    cases g1 : numV v
    rotate_left
    obtain ⟨z, hz⟩ := num_some g1
    refine iteT ⟨_, rfl, _, rfl, _, _, rfl, hz, _, rfl, ?_⟩
    cases g2 : decide (lo ≤ z)
    rotate_left
    refine iteT ⟨_, rfl, _, _, hz, rfl, ?_⟩
    have hcx : c = decide (z ≤ hi) := by
      have := of_decide_eq_true g2
      rw [hc, hz]; simp [wholeV, this]
    rotate_left
    refine iteF ?_
    have hcx : c = false := by rw [hc, whole_num g1]
    rotate_left
    refine iteF ?_
    have hcx : c = false := by
      have := of_decide_eq_false g2
      rw [hc, hz]; simp [wholeV]; omega
    rotate_left
    all_goals
      refine ⟨_, rfl, by decide, by decide, for_range (lo := 0) (n := _) (fun i σ H' => ∃ v5, σ = [some (.ref p), some v, some (.int lo), some (.int hi), some (.bl c), v5] ∧ Kp [] H H') ⟨_, by rw [hcx]; rfl, Kp.refl⟩ ?_ ?_⟩
      · rintro i σ H1 _ ⟨v5, rfl, k1⟩
        have th1 := th.kp k1
        refine ⟨_, rfl, _, rfl, _, rfl, v, lo, hi, rfl, th1.sh, _, _, rfl, shw_bool, _, rfl, _, _, rfl, shw_bool, rfl, _, rfl, ?_⟩
        rw [← hc]
        have ne : ∀ x : V, (!decide (x = x)) = false := fun x => by simp
        rw [ne]
        refine iteF ⟨_, rfl, v, rfl, th1.sh, fun H2 k2 => ⟨_, _, rfl, shw_bool, _, rfl, v, rfl, th1.sh.kp k2, fun H3 k3 => ⟨_, _, rfl, shw_bool, rfl, _, rfl, ?_⟩⟩⟩
        rw [ne]
        have th3 := (th1.kp k2).kp k3
        refine iteF ⟨_, rfl, v, rfl, th3, fun H4 k4 => ⟨_, _, rfl, shw_bool, _, rfl, v, rfl, th3.kp k4, fun H5 k5 => ⟨_, _, rfl, shw_bool, rfl, _, rfl, ?_⟩⟩⟩
        rw [th3.pairKp k4, ne]
        exact iteF ⟨_, rfl, (((k1.trans k2).trans k3).trans k4).trans k5⟩
      · rintro σ H1 ⟨v5, rfl, k1⟩
        exact q H1 k1
theorem ok_law (T : Tx K mg) {fd : FuncData} (F : Fun K "law" "law" s_law (He.ga K "law") fd) (c__law_cell : Cal P w K mg base 1 "_law_cell" (spCell K)) (c__law_box : Cal P w K mg base 1 "_law_box" spBox) (c__law_bounds : Cal P w K mg base 2 "_law_bounds" spBounds)
    (c__law_things : Cal P w K mg base 4 "_law_things" spThings) (c__law_right : Cal P w K mg base 3 "_law_right" spRightK) : FnG P w K mg base 5 (He.ga K "law") fd ["_law_script"] (spLaw K) := by
  refine FnG.of F sc_law (fun vs H Q E h => ?_) (fun cdv A outer s H vs Q E hr h => ?_)
  · obtain ⟨a, ns, rfl, _⟩ := h; rfl
  · obtain ⟨a, ns, rfl, hlen, scr, q⟩ := h
    refine ⟨_, pss_cons (ps_for (passes_of rfl) rfl (pi_range1 rfl T.z_range (pa_cons (pe_callB (call_max2 rfl) (by rfl) T.z_max (by decide +kernel) (pa_cons (pe_int) (pa_cons (pe_callB (call_min2 rfl) (by rfl) T.z_min (by decide +kernel) (pa_cons (pe_int) (pa_cons (pe_callB (klen K) (by rfl) T.z_len PySem.boot_len (pa_cons (pv 0) (pa_nil))) (pa_nil)))) (pa_nil)))) (pa_nil))) (pg_name (i := 1) sc_law.nd rfl (by first | exact Or.inl rfl | exact Or.inr rfl))
        (pss_cons (ps_set (i := 2) sc_law.nd rfl (by first | exact Or.inl rfl | exact Or.inr rfl) (gc c__law_box (hr.mono (by decide)) takes0 (pa_cons (gc c__law_cell (hr.mono (by decide)) takes0 (pa_cons (pv 0) (pa_cons (pv 1) (pa_nil)))) (pa_nil))))
      (pss_cons (ps_set (i := 3) sc_law.nd rfl (by first | exact Or.inl rfl | exact Or.inr rfl) (gc c__law_bounds (hr.mono (by decide)) takes0 (pa_cons (pv 2) (pa_nil))))
      (pss_one (ps_for (passes_of rfl) rfl (kiL K (gc c__law_things (hr.mono (by decide)) takes0 (pa_cons (pv 2) (pa_cons (pv 3) (pa_nil))))) (pg_name (i := 4) sc_law.nd rfl (by first | exact Or.inl rfl | exact Or.inr rfl))
        (pss_one (ps_if (pt_not (pt_val (gc c__law_right (hr.mono (by decide)) takes0 (pa_cons (pv 3) (pa_cons (pv 4) (pa_nil)))))) (pss_one (ps_ret (pe_bl))) (pss_nil))))))))
      (pss_one (ps_ret (pe_bl))), ?_⟩
    refine ⟨_, rfl, a, _, rfl, .inl scr.sq, _, _, rfl, _, _, rfl, _, rfl, ?_, ?_, for_range (lo := 0) (n := _) (fun i σ H' => ∃ v1 v2 v3 v4, σ = [some (.ref a), v1, v2, v3, v4] ∧ Scr K H' a ns) ⟨_, _, _, _, rfl, scr⟩ ?_ ?_⟩
    · rw [List.length_map]; split <;> split <;> omega
    · rw [List.length_map]; split <;> split <;> omega
    · rintro i σ H1 hi ⟨v1, v2, v3, v4, rfl, s1⟩
      refine ⟨_, rfl, _, rfl, a, ns, i, by rw [Int.zero_add], s1.sq, fun z => ⟨z, rfl, fun b H2 hb k2 b2 => ?_⟩⟩
      have s2 : Scr K H2 a ns := s1.kp k2.kp fun c hc o u h => by rw [List.mem_singleton] at hc; subst hc; rw [hb] at h; cases h
      refine ⟨_, rfl, b, 0, rfl, b2, by decide, fun H3 p lo hi k3 b3 np hp => ?_⟩
      have s3 := s2.kp k3 b2.nf
      refine ⟨_, rfl, _, rfl, b, p, _, lo, hi, rfl, b3, by decide, hp, np, fun H4 l ws k4 b4 nl hl h4 hw => ?_⟩
      have s4 := s3.kp k4 b3.nf
      have hp4 := k4 _ _ hp (by simpa using np)
      refine ⟨l, rfl, ⟨_, SqL.of hl⟩, for_list (K := K) (a := l) (xs := ws) (fun j σ H' => ∃ v4, σ = [some (.ref a), some (.int (0 + (i : Int))), some (.ref b), some (.ref p), v4] ∧ Kp [] H4 H') ⟨_, rfl, Kp.refl⟩ (fun j σ H' _ ⟨_, _, k⟩ => SqL.of (k _ _ hl (by simp))) ?_ ?_⟩
      · rintro j x σ H5 hx ⟨v4, rfl, k5⟩
        refine ⟨_, rfl, _, rfl, p, x, lo, hi, rfl, k5 _ _ hp4 (by simp), (hw x (List.mem_of_getElem? hx)).th.kp k5, fun H6 k6 => ⟨_, rfl, iteF ⟨_, rfl, k5.trans k6⟩⟩⟩
      · rintro σ H5 ⟨v4, rfl, k5⟩
        exact ⟨_, _, _, _, rfl, s4.kp0 k5⟩
    · rintro σ H1 ⟨v1, v2, v3, v4, rfl, s1⟩
      exact q H1
end

end Lw
namespace Lw
open PySem PySem.Spec L2 FG
open PyProof.Rows hiding St
section
variable {P : Program} {w : World} {K : PySem.W.Frag} {mg : Str → Option Value} {base : Heap}
theorem law_ok (T : Tx K mg) {fd : FuncData} (F : Fun K "law" "law" s_law (He.ga K "law") fd) : FnG P w K mg base 5 (He.ga K "law") fd ["_law_script"] (spLaw K) := by
  have c_is_number : Cal P w K mg base 1 "is_number" spNumG := Cal.of T.g_is_number T.F_is_number (fun F => F.binds (ps := ["thing"]) fun _ _ _ _ _ _ us hl => match us, hl with | [_], _ => rfl) (ok_number T)
  have c_is_whole : Cal P w K mg base 2 "is_whole" spWholeG := Cal.of T.g_is_whole T.F_is_whole (fun F => F.binds (ps := ["thing", "low", "high"]) fun _ _ _ _ _ _ us hl => match us, hl with | [_, _, _], _ => rfl) fun F => ok_whole T F c_is_number
  have c_is_name : Cal P w K mg base 1 "is_name" spName := Cal.of T.g_is_name T.F_is_name (fun F => F.binds (ps := ["thing"]) fun _ _ _ _ _ _ us hl => match us, hl with | [_], _ => rfl) (ok_name T)
  have c_is_pair : Cal P w K mg base 2 "is_pair" spPair := Cal.of T.g_is_pair T.F_is_pair (fun F => F.binds (ps := ["thing"]) fun _ _ _ _ _ _ us hl => match us, hl with | [_], _ => rfl) fun F => ok_pair T F c_is_number
  have c__law_cell : Cal P w K mg base 1 "_law_cell" (spCell K) := Cal.of T.g__law_cell T.F__law_cell (fun F => F.binds (ps := ["_law_script", "_law_k"]) fun _ _ _ _ _ _ us hl => match us, hl with | [_, _], _ => rfl) (ok_cell T)
  have c__law_box : Cal P w K mg base 1 "_law_box" spBox := Cal.of T.g__law_box T.F__law_box (fun F => F.binds (ps := ["_law_cell_here"]) fun _ _ _ _ _ _ us hl => match us, hl with | [_], _ => rfl) (ok_box T)
  have c__law_take : Cal P w K mg base 1 "_law_take" spTake := Cal.of T.g__law_take T.F__law_take (fun F => F.binds (ps := ["_law_box_here", "_law_many"]) fun _ _ _ _ _ _ us hl => match us, hl with | [_, _], _ => rfl) (ok_take T)
  have c__law_page : Cal P w K mg base 1 "_law_page" spPage := Cal.of T.g__law_page T.F__law_page (fun F => F.binds (ps := []) fun _ _ _ _ _ _ us hl => match us, hl with | [], _ => rfl) (ok_page T)
  have c__law_bounds : Cal P w K mg base 2 "_law_bounds" spBounds := Cal.of T.g__law_bounds T.F__law_bounds (fun F => F.binds (ps := ["_law_box_here"]) fun _ _ _ _ _ _ us hl => match us, hl with | [_], _ => rfl) fun F => ok_bounds T F c__law_take
  have c__law_text : Cal P w K mg base 2 "_law_text" spText := Cal.of T.g__law_text T.F__law_text (fun F => F.binds (ps := ["_law_box_here"]) fun _ _ _ _ _ _ us hl => match us, hl with | [_], _ => rfl) fun F => ok_text T F c__law_take c__law_page
  have c__law_other : Cal P w K mg base 2 "_law_other" spOther := Cal.of T.g__law_other T.F__law_other (fun F => F.binds (ps := ["_law_box_here"]) fun _ _ _ _ _ _ us hl => match us, hl with | [_], _ => rfl) fun F => ok_other T F c__law_take
  have c__law_row : Cal P w K mg base 3 "_law_row" spRow1 := Cal.of T.g__law_row T.F__law_row (fun F => F.binds (ps := ["_law_box_here"]) fun _ _ _ _ _ _ us hl => match us, hl with | [_], _ => rfl) fun F => ok_row T F c__law_take c__law_other
  have c__law_things : Cal P w K mg base 4 "_law_things" spThings := Cal.of T.g__law_things T.F__law_things (fun F => F.binds (ps := ["_law_box_here", "_law_bounds_here"]) fun _ _ _ _ _ _ us hl => match us, hl with | [_, _], _ => rfl) fun F => ok_things T F c__law_take c__law_text c__law_row c__law_other
  have c__law_is_number : Cal P w K mg base 1 "_law_is_number" spNumG := Cal.of T.g__law_is_number T.F__law_is_number (fun F => F.binds (ps := ["_law_thing"]) fun _ _ _ _ _ _ us hl => match us, hl with | [_], _ => rfl) (ok_lnumber T)
  have c__law_is_name : Cal P w K mg base 1 "_law_is_name" spName := Cal.of T.g__law_is_name T.F__law_is_name (fun F => F.binds (ps := ["_law_thing"]) fun _ _ _ _ _ _ us hl => match us, hl with | [_], _ => rfl) (ok_lname T)
  have c__law_is_pair : Cal P w K mg base 2 "_law_is_pair" spPair := Cal.of T.g__law_is_pair T.F__law_is_pair (fun F => F.binds (ps := ["_law_thing"]) fun _ _ _ _ _ _ us hl => match us, hl with | [_], _ => rfl) fun F => ok_lpair T F c__law_is_number
  have c__law_right : Cal P w K mg base 3 "_law_right" spRightK := Cal.of T.g__law_right T.F__law_right (fun F => F.binds (ps := ["_law_bounds_here", "_law_thing"]) fun _ _ _ _ _ _ us hl => match us, hl with | [_, _], _ => rfl) fun F => ok_right T F c_is_whole c_is_name c_is_pair c__law_is_number c__law_is_name c__law_is_pair
  exact ok_law T F c__law_cell c__law_box c__law_bounds c__law_things c__law_right
end

end Lw
open PySem PySem.W PySem.Calls PyProof.Rows
set_option maxHeartbeats 0 in
theorem PySem.Challenge.cw_framerooms_k01_numbers_names_and_pairs_holds : PySem.Challenge.rw_framerooms_k01_numbers_names_and_pairs.Holds := by
  w_on; o_law
  refine HandSHeadRun.head_any (r := OpenLaw.row PySem.Challenge.rw_framerooms_k01_numbers_names_and_pairs) (q := view (OpenLaw.row PySem.Challenge.rw_framerooms_k01_numbers_names_and_pairs).prog [21]) (H := Lw.hk) (ob := Lw.ob) (M := 4500) (loose := Lw.names0) (d := HandSHeadRun.topDef (OpenLaw.row PySem.Challenge.rw_framerooms_k01_numbers_names_and_pairs).prog 21) (kwd := []) Lw.ob_eq
    (by kernel_rfl) (fun s => by kernel_rfl) Lw.run (by kernel_rfl) (by kernel_rfl) (by kernel_rfl) (by rfl) (by first | assumption | decide +kernel) (by decide +kernel) ⟨rfl, rfl, rfl, rfl, rfl, by decide +kernel⟩ ?hw ?hc
  case hw => w_witness2
  case hc =>
    refine FG.walk_G (l := PySem.Challenge.rw_framerooms_k01_numbers_names_and_pairs) (n := 63) (k := 5) (x := "_law_script") rfl (by decide) (by kernel_rfl) ⟨rfl, by decide, by decide⟩ ?F
    intro w mg fa h Y G hmg0
    obtain ⟨K, KX, c⟩ := Y
    have hmg : mg ("law" : PySem.Str) = some (.ref fa) := by
      have e : (HandSHeadRun.topDef (OpenLaw.row PySem.Challenge.rw_framerooms_k01_numbers_names_and_pairs).prog 21).name = ("law" : PySem.Str) := by kernel_rfl
      rw [← e]
      exact hmg0
    have T : Lw.Tx K mg := Lw.tx_of KX G c
    have e := hmg.symm.trans T.g_law
    cases e
    obtain ⟨fd, F⟩ := T.F_law
    have b := F.binds (ps := ["_law_script"]) fun _ _ _ _ _ _ us hl => match us, hl with | [_], _ => rfl
    refine ⟨K, fd, Lw.spLaw K, KX, fun s u => ?_, fun H a ns hl bits hO hS => ⟨a, ns, rfl, hl, Lw.Scr.of hO hS, fun _ => rfl⟩, fun base _ _ => Lw.law_ok T F⟩
    have F2 := F
    obtain ⟨oc, od, kV, doc, pm, an, cdv, ct, osl, rfl, lk, hcd⟩ := F2.ex
    exact BindsTo.of_eq rfl
