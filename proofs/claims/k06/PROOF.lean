import PyProof.Rows.All
import Wide.All
import OpenK.AllK
import Wide.FinOn
import HandS.ForMost
import HandS.Exc
import HandS.ExcOwn
import HandS.ExcInit
import HandS.ExcIs
import HandS.TryOnly
import HandS.TryMany
import HandS.WordsExc
import HandS.Defaults
import HandS.Flow
import HandS.Style
import HandS.More
import HandS.Wide
import HandS.Walk
import HandS.Zip
import HandS.Rev
import HandS.IsInst
import HandS.EndBits
import HandS.Head0
import HandS.Head1
import HandS.Head2
import HandS.HeadEnd
import HandS.HeadHook1
import HandS.HeadHook2
import HandS.HeadHook3
import HandS.HeadHook4
import PySem.Challenge.RW_framerooms_k06_whole_frames_in_frames
set_option Elab.async false
set_option linter.all false
set_option maxRecDepth 100000
set_option maxHeartbeats 4000000
/-! GBase: calls whose frames know that no repr is running (guards), for defs that may raise; repr of data. Own layer over HandS. -/
namespace FG
open PySem PySem.Spec L2
open PyProof.Rows hiding St

/-- room for calls, and no guard stands around -/
structure RG (k : Nat) (A : Around) : Prop where
  r : Room k A
  g : A.guards = some []
theorem RG.mono {j k : Nat} {A : Around} (h : RG k A) (q : j ≤ k := by decide) : RG j A := ⟨h.r.mono q, h.g⟩
theorem RG.hu {k : Nat} {A : Around} (h : RG k A) : A.units + 1 < cLine := hu_of h.r

/-- a def's promise where the guards are known -/
structure FnG (P : Program) (w : World) (K : PySem.W.Frag) (mg : Str → Option Value) (base : Heap) (k : Nat) (f : Addr) (fd : FuncData) (ps : List Str) (sp : Sp) : Prop where
  nargs : ∀ vs H Q E, sp vs H Q E → vs.length = ps.length
  goes : ∀ (A : Around) (outer : List Env) (s : Shared) (H : Hp) (ar : Args) (us : List Value) (vs : List V) (Q : VK) (E : XK),
    RG k A → Env0 P w K mg base A outer s H → BindsTo s fd ar (ps.zip us) → Vals vs us → sp vs H Q E → codeAny (model P w) A (.call (.ref f) ar) (CR (L2.CX P w) outer P w H s Q E) s
theorem FnG.weaker {P : Program} {w : World} {K : PySem.W.Frag} {mg : Str → Option Value} {base : Heap} {k : Nat} {f : Addr} {fd : FuncData} {ps : List Str} {sp sp' : Sp} (F : FnG P w K mg base k f fd ps sp)
    (h : ∀ vs H Q E, sp' vs H Q E → sp vs H Q E) : FnG P w K mg base k f fd ps sp' :=
  ⟨fun vs H Q E z => F.nargs vs H Q E (h _ _ _ _ z), fun A outer s H ar us vs Q E a b c d z => F.goes A outer s H ar us vs Q E a b c d (h _ _ _ _ z)⟩

section
variable {P : Program} {w : World} {K : PySem.W.Frag} {mg : Str → Option Value} {base : Heap}
/-- a def of the text, by its body -/
theorem FnG.of {x qual : Str} {st : Stmt} {f : Addr} {fd : FuncData} {N ps : List Str} {k : Nat} {sp : Sp} (F : Fun K x qual st f fd) (S : FnScope N ps (defScope st)) (hn : ∀ vs H Q E, sp vs H Q E → vs.length = ps.length)
    (hb : ∀ (cdv : Value) (A : Around) (outer : List Env) (s : Shared) (H : Hp) (vs : List V) (Q : VK) (E : XK), RG k (A.deeper (envOfC qual (defScope st) s.heap.objs.size f cdv)) → sp vs H Q E →
      ∃ t, PSs (cxOf (L2.CX P w) P w K mg base N qual (defScope st) f cdv A outer s H E) (defBody st) t ∧ t { nx := fun _ H' => Q .non H', rt := Q } (start N vs) H) : FnG P w K mg base (k + 1) f fd ps sp := by
  obtain ⟨oc, od, kV, doc, pm, an, cdv, ct, osl, rfl, lk, hcd⟩ := F.ex
  refine ⟨hn, fun A outer s H ar us vs Q E hg env0 bnd rel hsp => ?_⟩
  have len := hn _ _ _ _ hsp
  have inK : K.In s.heap := env0.mod.kin.keeps fun b o z => (env0.bs b o z).1
  have nol : s.heap.NoLimit := env0.mod.nolimit.keeps fun b o z => (env0.bs b o z).1
  have hk : ∀ y ∈ ps.zip us, (defScope st).names.lookup y.1 = some .local ∨ ((defScope st).names.lookup y.1 = some .cell ∧ ((cellsFrom (s.heap.objs.size + 1) (defScope st).names []).lookup y.1).isSome = true) := by
    rintro ⟨n, v⟩ hy
    exact (S.par n (List.of_mem_zip hy).1).elim .inl fun q => .inr ⟨q, PySem.W.cellsFrom_some _ _ _ (.inl q)⟩
  refine codeAny_call_function hg.r.depth (inK _ _ lk) rfl S.co S.gen rfl (PySem.W.codeRec_of inK hcd) (bnd _ _ _ _ ?_)
  refine wpAny_newFunctionEnv_cells S.kind hk fun env ee s1 inc => ?_
  subst ee
  refine ⟨nol.keeps inc.toInCall.keep, codeAny_func ?_⟩
  obtain ⟨t, ht, hq⟩ := hb cdv A outer s H vs Q E ⟨hg.r.deeper _, hg.g⟩ hsp
  have I0 : Inv (cxOf (L2.CX P w) P w K mg base N qual (defScope st) f cdv A outer s H E) [] (start N vs) H s1 := inv_start S hg.r.hd env0 len rel inc
  refine wpAny_mono (ht.run [] s1 (start N vs) H _ I0 hq) (fun fl s2 hs => ?_) fun _ _ hs => hs
  have fin : ∀ {σ2 : St} {H2 : Hp} {v : V} {u : Value}, Inv (cxOf (L2.CX P w) P w K mg base N qual (defScope st) f cdv A outer s H E) [] σ2 H2 s2 → RelV v u → Q v H2 → CE outer P w H s Q u s2 := by
    intro σ2 H2 v u J rv q
    exact ⟨v, H2, J.os, J.bare, J.base, J.hok, rv, q⟩
  match fl, hs with
  | .ret u, ⟨v, σ2, H2, J, rv, q⟩ => exact fin J rv q
  | .next, ⟨σ2, H2, J, q⟩ => exact fin (v := V.non) (u := Value.none) J rfl q
  | .brk, ⟨_, _, _, q⟩ => exact q.elim
  | .cont, ⟨_, _, _, q⟩ => exact q.elim
end

/-! ### defs, methods, classes as their callers see them -/
/-- the module's def x keeps sp -/
structure Cal (P : Program) (w : World) (K : PySem.W.Frag) (mg : Str → Option Value) (base : Heap) (k : Nat) (x : Str) (sp : Sp) : Prop where
  ex : ∃ (f : Addr) (fd : FuncData) (ps : List Str), FnG P w K mg base k f fd ps sp ∧ mg x = some (.ref f) ∧ PySem.W.keepIn K (.ref f) = true ∧ Binds K fd ps []
/-- the method m of the class at C keeps sp -/
structure Met (P : Program) (w : World) (K : PySem.W.Frag) (mg : Str → Option Value) (base : Heap) (k : Nat) (C : Addr) (m : Str) (sp : Sp) : Prop where
  ex : ∃ (f : Addr) (fd : FuncData) (ps : List Str), Cls K C ∧ Meth K C m f ∧ FnG P w K mg base k f fd ps sp ∧ Binds K fd ps []
/-- the class x, at C, is made by an __init__ that keeps sp -/
structure Mak (P : Program) (w : World) (K : PySem.W.Frag) (mg : Str → Option Value) (base : Heap) (k : Nat) (x : Str) (C : Addr) (sp : Sp) : Prop where
  ex : ∃ (f : Addr) (fd : FuncData) (ps : List Str), Mk K C f ∧ FnG P w K mg base k f fd ps sp ∧ mg x = some (.ref C) ∧ Binds K fd ps []

theorem make_guards {A : Around} {C : Addr} {us : List Value} {kw : List (Str × Value)} : (A.under (.builtin "type.__call__" ⟨.ref C :: us, kw⟩)).guards = A.guards := by
  first | rfl | simp [Around.under, Code.guards, Code.isGuard, guardIds, pushGuards]

/-- a call's reading: the arguments, then the promise; W: what is wanted of an exception -/
def tG (sp : Sp) (W : WX) (t : TA) : TE := fun σ H Q => t σ H fun vs H1 => sp vs H1 Q (fun cls d H2 => W cls d σ H2)
/-- o.m(..) -/
def tGm (C : Addr) (m : Str) (sp : Sp) (W : WX) (ta : TE) (t : TA) : TE := fun σ H Q => ta σ H fun x H1 => ∃ a dx fs, x = .ref a ∧ H1 a = some (.ins C dx fs) ∧ fs.lookup m = none ∧
  t σ H1 fun vs H2 => sp (x :: vs) H2 Q (fun cls d H3 => W cls d σ H3)
/-- C(..) -/
def tGk (C : Addr) (sp : Sp) (W : WX) (t : TA) : TE := fun σ H Q => t σ H fun vs H1 => ∀ x dx, H1 x = none → H1 dx = none → dx ≠ x →
  sp (.ref x :: vs) (upd (upd H1 dx (.own x)) x (.ins C dx [])) (fun v H2 => v = .non ∧ Q (.ref x) H2) (fun cls d H2 => W cls d σ H2)

section
variable {X : Cx} {k : Nat} {f C : Addr} {fd : FuncData} {ps : List Str} {sp : Sp} {W : WX} {x m : Str} {p pos apos : Pos} {e o : Expr} {es : List Expr} {ta : TE} {t : TA}

theorem runs {pins : List (Addr × Obj)} {σ : St} {H : Hp} {s : Shared} {Q : VK} {us : List Value} {vs : List V} (F : FnG X.prog X.w X.K X.mg X.base k f fd ps sp) (hr : RG k X.A) (hb : Binds X.K fd ps []) (tk : Takes X W)
    (I : Inv X pins σ H s) (r : Vals vs us) (h : sp vs H Q (fun cls d H2 => W cls d σ H2)) : wpAny (model X.prog X.w) X.A (call (.ref f) us) (EP X pins σ Q) X.xe s := by
  have ln : us.length = ps.length := r.length.symm.trans (F.nargs _ _ _ _ h)
  have b := hb s us I.kIn (by simpa using ln)
  rw [List.append_nil] at b
  refine wpAny_call (codeAny_mono (F.goes X.A X.stack s H ⟨us, []⟩ us vs Q _ hr I.env0 b r h) fun q s2 hq => ?_)
  match q, hq with
  | .error e, hq => exact passAt tk σ pins H s e s2 I hq
  | .ok (.ret u), hq => exact I.after hq
  | .ok .next, hq => exact hq.elim
  | .ok .brk, hq => exact hq.elim
  | .ok .cont, hq => exact hq.elim

theorem gc (c : Cal X.prog X.w X.K X.mg X.base k x sp) (hr : RG k X.A) (tk : Takes X W) (ha : PA X (e :: es) t) (hg : Gl X x := by rfl) (hdb : (x == ("__debug__" : Str)) = false := by decide)
    (he : starEach (e :: es) X.env = (false, eval e X.env) :: starEach es X.env := by rfl) (hpl : (backTo pos (starEach es X.env)).any (·.1) = false := by rfl) : PE X (.Call (.Name x p) (e :: es) [] pos) (tG sp W t) := by
  obtain ⟨f, fd, ps, F, hm, hk, hb⟩ := c.ex
  refine ⟨fun pins s σ H Q I h => wpAny_Call_Name_kw (ld_glob I hg hm ?_ hdb)⟩
  exact PySem.W.callWith_K (h₀ := X.base) I.ok.mod.kin hk (thn (ha.run pos pins s σ H _ I h) fun us s1 ⟨vs, H1, I1, r, q⟩ => ⟨I1.kIn, runs F hr hb tk I1 r q⟩) he hpl
theorem gc0 (c : Cal X.prog X.w X.K X.mg X.base k x sp) (hr : RG k X.A) (tk : Takes X W) (hg : Gl X x := by rfl) (hdb : (x == ("__debug__" : Str)) = false := by decide) : PE X (.Call (.Name x p) [] [] pos) (tG sp W tNil) := by
  obtain ⟨f, fd, ps, F, hm, hk, hb⟩ := c.ex
  exact ⟨fun pins s σ H Q I h => wpAny_Call_Name_kw (ld_glob I hg hm (PySem.W.callWith_K0 I.kIn hk (runs (us := []) F hr hb tk I .nil h)) hdb)⟩

theorem gm {pl : Sem Bool} (c : Met X.prog X.w X.K X.mg X.base k C m sp) (hr : RG k X.A) (tk : Takes X W) (he : PE X o ta) (ha : PA X (e :: es) t)
    (hst : starEach (e :: es) X.env = (false, eval e X.env) :: starEach es X.env := by rfl) (hpl : (backTo pos (starEach es X.env)).any (·.1) = false := by rfl)
    (ht : eval (.Call (.Attribute o m apos) (e :: es) [] pos) X.env = (do let ov ← eval o X.env; standAt apos.atName; let (f, first) ← holding [ov] (getMethod ov m pl); callWith pos f first (backTo pos (starEach (e :: es) X.env)) (backToKw pos (keywordEach [] X.env))) := by rfl) :
    PE X (.Call (.Attribute o m apos) (e :: es) [] pos) (tGm C m sp W ta t) := by
  obtain ⟨f, fd, ps, cl, hm, F, hb⟩ := c.ex
  refine ⟨fun pins s σ H Q I h => PySem.W.methodCall_KW (pl := pl) (thn (he.run pins s σ H _ I h) fun u s1 ⟨x, H1, I1, rx, a, dx, fs, ex, ea, l, q⟩ => ?_) ht⟩
  subst ex
  obtain rfl : u = Value.ref a := rx
  refine getmeth_ok I1 ea cl hm l (PySem.W.callWith_K (first := [.ref a]) (h₀ := X.base) I.ok.mod.kin hm.kp (thn (ha.run pos pins s1 σ H1 _ I1 q) fun us s2 ⟨vs, H2, I2, r, q2⟩ => ⟨I2.kIn, ?_⟩) hst hpl)
  exact runs (us := .ref a :: us) (vs := .ref a :: vs) F hr hb tk I2 (.cons rfl r) q2
theorem gm0 {pl : Sem Bool} (c : Met X.prog X.w X.K X.mg X.base k C m sp) (hr : RG k X.A) (tk : Takes X W) (he : PE X o ta)
    (ht : eval (.Call (.Attribute o m apos) [] [] pos) X.env = (do let ov ← eval o X.env; standAt apos.atName; let (f, first) ← holding [ov] (getMethod ov m pl); callWith pos f first (backTo pos (starEach [] X.env)) (backToKw pos (keywordEach [] X.env))) := by rfl) :
    PE X (.Call (.Attribute o m apos) [] [] pos) (tGm C m sp W ta tNil) := by
  obtain ⟨f, fd, ps, cl, hm, F, hb⟩ := c.ex
  refine ⟨fun pins s σ H Q I h => PySem.W.methodCall_KW (pl := pl) (thn (he.run pins s σ H _ I h) fun u s1 ⟨x, H1, I1, rx, a, dx, fs, ex, ea, l, q⟩ => ?_) ht⟩
  subst ex
  obtain rfl : u = Value.ref a := rx
  exact getmeth_ok I1 ea cl hm l (PySem.W.callWith_K0 (first := [.ref a]) I1.kIn hm.kp (runs (us := [.ref a]) (vs := [.ref a]) F hr hb tk I1 (.cons rfl .nil) q))

theorem makes {pins : List (Addr × Obj)} {σ : St} {H : Hp} {s : Shared} {Q : VK} {us : List Value} {vs : List V} (M : Mk X.K C f) (F : FnG X.prog X.w X.K X.mg X.base k f fd ps sp) (hr : RG (k + 1) X.A) (hb : Binds X.K fd ps []) (tk : Takes X W)
    (I : Inv X pins σ H s) (r : Vals vs us) (h : ∀ x dx, H x = none → H dx = none → dx ≠ x → sp (.ref x :: vs) (upd (upd H dx (.own x)) x (.ins C dx [])) (fun v H2 => v = .non ∧ Q (.ref x) H2) (fun cls d H2 => W cls d σ H2)) :
    wpAny (model X.prog X.w) X.A (call (.ref C) us) (EP X pins σ Q) X.xe s := by
  have hq := h (s.heap.objs.size + 1) s.heap.objs.size (I.hok.fresh (Nat.le_succ _)) (I.hok.fresh (Nat.le_refl _)) (Nat.ne_of_lt (Nat.lt_succ_self _))
  have I2 := Inv.made (C := C) I
  have r2 : Vals (V.ref (s.heap.objs.size + 1) :: vs) (Value.ref (s.heap.objs.size + 1) :: us) := .cons rfl r
  have ln : (Value.ref (s.heap.objs.size + 1) :: us).length = ps.length := r2.length.symm.trans (F.nargs _ _ _ _ hq)
  have b := hb _ (Value.ref (s.heap.objs.size + 1) :: us) I2.kIn (by simpa using ln)
  rw [List.append_nil] at b
  refine wpAny_call (make_map (f := f) I.kIn M.makes M.init (beq_iff_eq.mp M.fn) (codeAny_mono (F.goes _ X.stack _ _ ⟨Value.ref (s.heap.objs.size + 1) :: us, []⟩ (Value.ref (s.heap.objs.size + 1) :: us) _ _ _ ⟨hr.r.make C us [], make_guards.trans hr.g⟩ (I2.env0.make C us []) b r2 hq) fun q s2 hq2 => ?_))
  match q, hq2 with
  | .error e, hq2 => exact passAt tk σ pins _ _ e s2 I2 hq2
  | .ok (.ret u), hq2 =>
    obtain ⟨v, H3, I3, rv, ev, q3⟩ := I2.after hq2
    subst ev
    exact ⟨rv, ⟨V.ref (s.heap.objs.size + 1), H3, I3, rfl, q3⟩⟩
  | .ok .next, hq2 => exact hq2.elim
  | .ok .brk, hq2 => exact hq2.elim
  | .ok .cont, hq2 => exact hq2.elim
theorem gk (c : Mak X.prog X.w X.K X.mg X.base k x C sp) (hr : RG (k + 1) X.A) (tk : Takes X W) (ha : PA X (e :: es) t) (hg : Gl X x := by rfl) (hdb : (x == ("__debug__" : Str)) = false := by decide)
    (he : starEach (e :: es) X.env = (false, eval e X.env) :: starEach es X.env := by rfl) (hpl : (backTo pos (starEach es X.env)).any (·.1) = false := by rfl) : PE X (.Call (.Name x p) (e :: es) [] pos) (tGk C sp W t) := by
  obtain ⟨f, fd, ps, M, F, hm, hb⟩ := c.ex
  refine ⟨fun pins s σ H Q I h => wpAny_Call_Name_kw (ld_glob I hg hm ?_ hdb)⟩
  exact PySem.W.callWith_K (h₀ := X.base) I.ok.mod.kin M.kp (thn (ha.run pos pins s σ H _ I h) fun us s1 ⟨vs, H1, I1, r, q⟩ => ⟨I1.kIn, makes M F hr hb tk I1 r q⟩) he hpl
theorem gk0 (c : Mak X.prog X.w X.K X.mg X.base k x C sp) (hr : RG (k + 1) X.A) (tk : Takes X W) (hg : Gl X x := by rfl) (hdb : (x == ("__debug__" : Str)) = false := by decide) : PE X (.Call (.Name x p) [] [] pos) (tGk C sp W tNil) := by
  obtain ⟨f, fd, ps, M, F, hm, hb⟩ := c.ex
  exact ⟨fun pins s σ H Q I h => wpAny_Call_Name_kw (ld_glob I hg hm (PySem.W.callWith_K0 I.kIn M.kp (makes (us := []) M F hr hb tk I .nil h)) hdb)⟩
end

/-! ### repr -/
section
variable {X : Cx}
/-- repr(v), v data: its text -/
structure Shw (K : PySem.W.Frag) (H : Hp) (v : V) (d : PyData) : Prop where
  dp : Dp K H v d
  ok : d.showable = true
  len : d.shown.length ≤ sizeLine
  dep : d.depth ≤ 60
def rRepr (K : PySem.W.Frag) (vs : List V) (H : Hp) (Q : VK) : Prop := ∃ v d, vs = [v] ∧ Shw K H v d ∧ Q (.str d.shown) H
mutual
theorem dp_plain {K : PySem.W.Frag} {H : Hp} : ∀ (d : PyData) (v : V), Dp K H v d → d.hasDict = false
  | .none, _, _ => by simp only [PyData.hasDict]
  | .bool _, _, _ => by simp only [PyData.hasDict]
  | .int _, _, _ => by simp only [PyData.hasDict]
  | .str _, _, _ => by simp only [PyData.hasDict]
  | .list ds, _, h => by
    cases h with
    | lst _ a => simp only [PyData.hasDict]; exact dp_plains ds _ a
  | .tuple ds, _, h => by
    cases h with
    | tup _ a => simp only [PyData.hasDict]; exact dp_plains ds _ a
  | .dict _, _, h => by cases h
theorem dp_plains {K : PySem.W.Frag} {H : Hp} : ∀ (ds : List PyData) (vs : List V), DpAll K H vs ds → PyData.hasDictAll ds = false
  | [], _, _ => by simp only [PyData.hasDictAll]
  | d :: ds, _, h => by
    cases h with
    | cons a b => simp only [PyData.hasDictAll, dp_plain d _ a, dp_plains ds _ b, Bool.or_self]
end
theorem call_repr {k : Nat} (hr : RG k X.A) : CallR X (.builtin "repr") (rRepr X.K) := by
  intro pins s σ H xs us Q I r h
  obtain ⟨v, d, rfl, ⟨hd, hs, hl, hdp⟩, q⟩ := h
  obtain ⟨u, rfl, ru⟩ := vals1 r
  have un := hr.r.units
  cases hd with
  | non => cases ru; exact PySem.P.repr_of_none ⟨.str _, H, I.tok _, ⟨_, rfl⟩, by simpa only [PyData.shown] using q⟩
  | bl b => cases ru; exact PySem.P.repr_of_bool ⟨.str _, H, I.tok _, ⟨_, rfl⟩, by simpa only [PyData.shown] using q⟩
  | int i =>
    obtain ⟨t, rfl⟩ := ru
    exact PySem.P.repr_of_int (by simpa only [PyData.showable, decide_eq_true_eq] using hs) ⟨.str _, H, I.tok _, ⟨_, rfl⟩, by simpa only [PyData.shown] using q⟩
  | str x =>
    obtain ⟨t, rfl⟩ := ru
    exact PySem.P.repr_of_str ⟨.str _, H, I.tok _, ⟨_, rfl⟩, by simpa only [PyData.shown] using q⟩ (by simpa only [PyData.shown] using hl)
  | lst a b =>
    obtain rfl := ru
    have hd2 := Dp.lst a b
    obtain ⟨as, rd⟩ := Dp.reads I _ _ _ hd2 rfl
    exact repr_of_reads' rd hs (PyData.noDict_hsm (dp_plain _ _ hd2)) hr.g (by omega) (fun _ _ z => z) (fun h' u tk kp => ⟨.str _, H, I.kept kp, ⟨_, rfl⟩, q⟩) hl
  | tup a b =>
    obtain rfl := ru
    have hd2 := Dp.tup a b
    obtain ⟨as, rd⟩ := Dp.reads I _ _ _ hd2 rfl
    exact repr_of_reads' rd hs (PyData.noDict_hsm (dp_plain _ _ hd2)) hr.g (by omega) (fun _ _ z => z) (fun h' u tk kp => ⟨.str _, H, I.kept kp, ⟨_, rfl⟩, q⟩) hl
theorem pe_repr {k : Nat} {x : Str} {p pos : Pos} {e : Expr} {te : TE} (hr : RG k X.A) (hm : X.mg "repr" = none) (he : PE X e te) (hg : Gl X "repr" := by rfl)
    (hs : starEach (e :: []) X.env = (false, eval e X.env) :: starEach [] X.env := by rfl) (hpl : (backTo pos (starEach [] X.env)).any (·.1) = false := by rfl) :
    PE X (.Call (.Name "repr" p) [e] [] pos) (tCB (rRepr X.K) (tCons te tNil)) := pe_callB (call_repr hr) hg hm boot_repr (pa_cons he pa_nil hs) (by decide) (by decide) hs hpl
end
end FG

/-! GEnd: the end of a law whose def keeps its promise where the guards are known. -/
namespace FG
open PySem PySem.Spec L2
open PyProof.Rows hiding St

theorem law_runs {P : Program} {w : World} {K : PySem.W.Frag} {mg mb : Str → Option Value} {k : Nat} {fa a : Addr} {fd : FuncData} {x : Str} {sp : Sp} {s : Shared} {vs : List Value} {ns : List Int}
    (inK : K.In s.heap) (gl : s.heap.Ns mainGlobals mg) (bl : s.heap.Ns builtinsNs mb) (bb : ∀ y : Str, y ≠ "__name__" → mb y = bootBuiltins y) (nol : s.heap.NoLimit) (gens : s.gens = #[])
    (la : s.heap.get? a = some { cls := .type "list", data := .seq vs.toArray }) (li : IntsAre vs ns) (ln : ns.length ≤ sizeLine) (hr : Room k callerA)
    (F : ∀ base : Heap, K.In base → base.Ns mainGlobals mg → FnG P w K mg base k fa fd [x] sp) (bnd : ∀ (s : Shared) (u : Value), BindsTo s fd ⟨[u], []⟩ [(x, u)])
    (hsp : ∀ H : Hp, Only H → SqL K H a (ns.map V.int) → sp [.ref a] H (fun v _ => v = .bl true) fun _ _ _ => False) :
    codeAny (model P w) callerA (.call (.ref fa) ⟨[.ref a], []⟩) (fun r s' => r = .ok (.ret (.bool true)) ∧ OldK s.heap s'.heap ∧ s'.os = s.os ∧ AllBare s'.gens) s := by
  have rels := vals_ints li
  have lens := li.length
  have main : ∀ H : Hp, Only H → SqL K H a (ns.map V.int) → HOk P w H s.heap → (∀ b u, H b = some u → b = a) → (∀ u, H a = some u → K.lookup a = none) →
      codeAny (model P w) callerA (.call (.ref fa) ⟨[.ref a], []⟩) (fun r s' => r = .ok (.ret (.bool true)) ∧ OldK s.heap s'.heap ∧ s'.os = s.os ∧ AllBare s'.gens) s := by
    intro H only seq hok atA notK
    have noDict : ∀ {b : Addr} {o : Obj} {es : Array DictEntry} {ep : Nat}, s.heap.get? b = some o → o.data = .dict es ep → H b = none := by
      intro b o es ep e d
      cases q : H b with
      | none => rfl
      | some u =>
        obtain rfl := atA b u q
        rw [la] at e
        cases e
        cases (show Data.seq vs.toArray _ = Data.dict es ep from d)
    have ns2 : ∀ {b : Addr} {m : Str → Option Value}, s.heap.Ns b m → (hidT s.heap H).Ns b m := by
      rintro b m ⟨o, es, ep, e, d, r⟩
      exact ⟨o, es, ep, hidT_get e (noDict e d), d, r⟩
    have inK2 : K.In (hidT s.heap H) := by
      intro b o e
      refine hidT_get (inK b o e) ?_
      cases q : H b with
      | none => rfl
      | some u =>
        obtain rfl := atA b u q
        rw [notK u q] at e
        cases e
    have md : Mod K mg (hidT s.heap H) := by
      obtain ⟨mc, c1, c2⟩ := nol
      exact ⟨inK2, ns2 gl, ⟨mb, ns2 bl, bb⟩, mc, ns2 c1, c2⟩
    have env0 : Env0 P w K mg (hidT s.heap H) callerA [] s H :=
      ⟨rfl, md, fun b o e => of_hidT e, Nat.le_of_eq (hidT_size _ _), trivial, (fun b hb => by cases (show b ∈ ([] : List Addr) from hb)), hok, .of_eq gens⟩
    refine codeAny_mono ((F _ inK2 (ns2 gl)).goes callerA [] s H ⟨[.ref a], []⟩ [.ref a] [.ref a] _ _ ⟨hr, rfl⟩ env0 (bnd s (.ref a)) (.cons rfl .nil) (hsp H only seq)) fun r s2 hq => ?_
    match r, hq with
    | .error e, hq =>
      obtain ⟨_, _, _, _, _, _, _, _, _, _, _, _, z⟩ := hq
      exact z.elim
    | .ok .next, hq => exact hq.elim
    | .ok .brk, hq => exact hq.elim
    | .ok .cont, hq => exact hq.elim
    | .ok (.ret u), hq =>
      obtain ⟨v, H2, os, bare, un, hok2, rv, q⟩ := hq
      obtain rfl : v = .bl true := q
      obtain rfl : u = Value.bool true := rv
      refine ⟨rfl, OldK.of_keep fun b o e => ?_, os, bare⟩
      cases hb : H b with
      | none => exact un.keep b o e hb (fun z => by cases (show b ∈ ([] : List Addr) from z)) (fun z => by cases (show b ∈ ([] : List Addr) from z))
      | some y =>
        obtain z | ⟨ob, xs, z⟩ := only b
        · rw [hb] at z
          cases z
        · have e1 := (hok b _ z).1
          have e2 := (hok2 b _ (un.frzs b ob _ z)).1
          rw [e] at e1
          cases e1
          exact e2
  cases hk : K.lookup a with
  | some o =>
    have e := inK a o hk
    rw [la] at e
    cases e
    exact main (fun _ => none) (fun _ => .inl rfl) (.inr ⟨_, vs.toArray, _, hk, rfl, rfl, rfl, by rw [List.size_toArray, lens]; exact ln, by simpa using rels⟩) (fun b u z => by cases z) (fun b u z => by cases z) fun u z => by cases z
  | none =>
    let H1 : Hp := fun b => if b = a then some (.frz { cls := .type "list", data := .seq vs.toArray } (.lst (ns.map V.int))) else none
    have ha : H1 a = some (.frz { cls := .type "list", data := .seq vs.toArray } (.lst (ns.map V.int))) := if_pos rfl
    have hne : ∀ b, b ≠ a → H1 b = none := fun b hb => if_neg hb
    refine main H1 (fun b => ?_) (.inl (.inr ⟨_, ha⟩)) (fun b u z => ?_) (fun b u z => ?_) fun _ _ => hk
    · by_cases hb : b = a
      · subst hb
        exact .inr ⟨_, _, ha⟩
      · exact .inl (hne b hb)
    · by_cases hb : b = a
      · subst hb
        rw [ha] at z
        cases z
        exact ⟨la, by rw [List.length_map]; exact ln, vs, _, rels, la⟩
      · rw [hne b hb] at z
        cases z
    · by_cases hb : b = a
      · exact hb
      · rw [hne b hb] at z
        cases z

/-- the goal that a head by facts leaves -/
theorem walk_G {l : PySem.W.OpenLaw} {n k : Nat} {q : Program} {loose : List Str} {XP : (Str → Option Value) → Heap → Prop} {YP : World → Heap → Prop} {d : DefRec} {x : Str}
    (hn : l.most = some n) (hn2 : n ≤ sizeLine) (hdf : d.params.defaults = []) (hr : Room k callerA)
    (F : ∀ (w : World) (mg : Str → Option Value) (fa : Addr) (h : Heap), YP w h → h.Ns mainGlobals mg → mg d.name = some (.ref fa) →
      ∃ (K : PySem.W.Frag) (fd : FuncData) (sp : Sp), K.In h ∧ (∀ (s : Shared) (u : Value), BindsTo s fd ⟨[u], []⟩ [(x, u)]) ∧
        (∀ (H : Hp) (a : Addr) (ns : List Int), ns.length ≤ n → (∀ z ∈ ns, Builtin.Int.intBits z ≤ 1048576) → Only H → SqL K H a (ns.map V.int) → sp [.ref a] H (fun v _ => v = .bl true) fun _ _ _ => False) ∧
        ∀ base : Heap, K.In base → base.Ns mainGlobals mg → FnG l.prog w K mg base k fa fd [x] sp) :
    PySem.W.WalkO q loose XP YP l.row.toRowW d [] (fun f vs => PySem.call f vs) := by
  refine Att.attach_callB hn hdf fun w s₀ s₁ mg mb fa o pm cd doc a vs ns G Y ho hd hcd hmg hobj hints hlen bits gens => ?_
  obtain ⟨K, fd, sp, inK, hb, hsp, hF⟩ := F w mg fa _ Y G.T.g hmg
  exact law_runs inK G.T.g G.T.b G.T.builtins G.T.nolimit gens hobj hints (Nat.le_trans hlen hn2) hr hF hb fun H hO hS => hsp H a ns hlen bits hO hS

section
variable {P : Program} {w : World} {K : PySem.W.Frag} {mg : Str → Option Value} {base : Heap} {k : Nat} {x m q : Str} {st : Stmt} {f C : Addr} {ps : List Str} {sp : Sp}
theorem Cal.of (g : mg x = some (.ref f)) (F : ∃ fd, Fun K x q st f fd) (b : ∀ {fd}, Fun K x q st f fd → Binds K fd ps []) (h : ∀ {fd}, Fun K x q st f fd → FnG P w K mg base k f fd ps sp) : Cal P w K mg base k x sp :=
  let ⟨fd, z⟩ := F; ⟨f, fd, ps, h z, g, z.kp, b z⟩
theorem Met.of (c : Cls K C) (mt : Meth K C m f) (F : ∃ fd, Fun K x q st f fd) (b : ∀ {fd}, Fun K x q st f fd → Binds K fd ps []) (h : ∀ {fd}, Fun K x q st f fd → FnG P w K mg base k f fd ps sp) : Met P w K mg base k C m sp :=
  let ⟨fd, z⟩ := F; ⟨f, fd, ps, c, mt, h z, b z⟩
theorem Mak.of (M : Mk K C f) (g : mg m = some (.ref C)) (F : ∃ fd, Fun K x q st f fd) (b : ∀ {fd}, Fun K x q st f fd → Binds K fd ps []) (h : ∀ {fd}, Fun K x q st f fd → FnG P w K mg base k f fd ps sp) : Mak P w K mg base k m C sp :=
  let ⟨fd, z⟩ := F; ⟨f, fd, ps, M, h z, g, b z⟩
end
/-- a def without defaults as a Fun -/
theorem toFun {K : PySem.W.Frag} {x qual : Str} {st : Stmt} {f : Addr} {fd : FuncData} (F : FunD K x qual (defArgs st) (defBody st) (defScope st) [] [] f fd) : Fun K x qual st f fd := by
  obtain ⟨oc, od, dV, kV, doc, pm, an, cdv, ct, osl, rfl, lk, cd, dv, _⟩ := F.ex
  rcases dv with ⟨_, rfl⟩ | ⟨z, _⟩
  · exact ⟨⟨oc, od, kV, doc, pm, an, cdv, ct, osl, rfl, lk, cd⟩, F.kp⟩
  · exact absurd rfl z
end FG

/-! GK: the layer's rules, their readings told over a named written part (so that they can stand within a comprehension). -/
namespace FG
open PySem PySem.Spec L2
open PyProof.Rows hiding St
section
variable {X : Cx} {e o a b : Expr} {es : List Expr} {f name : Str} {pos apos cpos p p2 p3 : Pos} {ta te tb to : TE} {t : TA} {T id : String} {r : V → List V → Hp → VK → Prop}
theorem kfld (K : PySem.W.Frag) (he : PE X e ta) (hb : attributeBase e f X.env (eval e X.env) = eval e X.env := by rfl) (hK : X.K = K := by rfl) : PE X (.Attribute e f pos) (tFld K ta f) := by subst hK; exact pe_fld he hb
theorem kixL (K : PySem.W.Frag) (hK : X.K = K := by rfl) : IxR X (rIxL K) := by subst hK; exact ix_list
theorem kixT (K : PySem.W.Frag) (hK : X.K = K := by rfl) : IxR X (rIxT K) := by subst hK; exact ix_tup
theorem kslL (K : PySem.W.Frag) (hK : X.K = K := by rfl) : SlR X (rSlL K) := by subst hK; exact sl_list
theorem kslT (K : PySem.W.Frag) (hK : X.K = K := by rfl) : SlR X (rSlT K) := by subst hK; exact sl_tup
theorem kin (K : PySem.W.Frag) (hK : X.K = K := by rfl) : OpR X (compareOp .In) (rIn K false) := by subst hK; exact op_in_seq
theorem knotIn (K : PySem.W.Frag) (hK : X.K = K := by rfl) : OpR X (compareOp .NotIn) (rIn K true) := by subst hK; exact op_notIn_seq
theorem keqD (K : PySem.W.Frag) (hu : X.A.units + 64 < cLine) (hK : X.K = K := by rfl) : OpR X (compareOp .Eq) (rEqD K) := by subst hK; exact op_eqD hu
theorem kneD (K : PySem.W.Frag) (hu : X.A.units + 64 < cLine) (hK : X.K = K := by rfl) : OpR X (compareOp .NotEq) (rNeD K) := by subst hK; exact op_neD hu
theorem kcatT (K : PySem.W.Frag) (hK : X.K = K := by rfl) : OpR X (binaryOp .Add) (rCatT K) := by subst hK; exact op_catT
def rLenS (K : PySem.W.Frag) (xs : List V) (H : Hp) (Q : VK) : Prop := ∃ p ys, xs = [.ref p] ∧ (SqL K H p ys ∨ SqT K H p ys) ∧ Q (.int ys.length) H
theorem klen (K : PySem.W.Frag) (hK : X.K = K := by rfl) : CallR X (.builtin "len") (rLenS K) := by subst hK; exact call_len_seq
def rListOf (K : PySem.W.Frag) (xs : List V) (H : Hp) (Q : VK) : Prop := ∃ p ys, xs = [.ref p] ∧ (SqL K H p ys ∨ SqT K H p ys) ∧ ∀ l, H l = none → Q (.ref l) (upd H l (.lst ys))
theorem klist (K : PySem.W.Frag) (hK : X.K = K := by rfl) : CallR X (.type "list") (rListOf K) := by subst hK; exact call_list_of
def rTupOf (K : PySem.W.Frag) (xs : List V) (H : Hp) (Q : VK) : Prop := ∃ p ys, xs = [.ref p] ∧ ((SqL K H p ys ∧ ∀ l, H l = none → Q (.ref l) (upd H l (.tup ys))) ∨ (SqT K H p ys ∧ Q (.ref p) H))
theorem ktuple (K : PySem.W.Frag) (hK : X.K = K := by rfl) : CallR X (.type "tuple") (rTupOf K) := by subst hK; exact call_tuple_of
theorem ksum (K : PySem.W.Frag) (hc : X.calm = true := by rfl) (hK : X.K = K := by rfl) : CallR X (.builtin "sum") (rSum K) := by subst hK; exact cr_sum hc
theorem kmax (K : PySem.W.Frag) (hc : X.calm = true := by rfl) (hK : X.K = K := by rfl) : CallR X (.builtin "max") (rMax K) := by subst hK; exact cr_max hc
theorem kmin (K : PySem.W.Frag) (hc : X.calm = true := by rfl) (hK : X.K = K := by rfl) : CallR X (.builtin "min") (rMin K) := by subst hK; exact cr_min hc
theorem kany (K : PySem.W.Frag) (hc : X.calm = true := by rfl) (hK : X.K = K := by rfl) : CallR X (.builtin "any") (rAny K) := by subst hK; exact cr_any hc
theorem kall (K : PySem.W.Frag) (hc : X.calm = true := by rfl) (hK : X.K = K := by rfl) : CallR X (.builtin "all") (rAll K) := by subst hK; exact cr_all hc
theorem kisi (K : PySem.W.Frag) (hK : X.K = K := by rfl) : CallR X (.builtin "isinstance") (rIsi K) := by subst hK; exact call_isi
theorem kbm0 (K : PySem.W.Frag) (pa : PlainAttrs T) (slot : Slot T name id) (hty : typeOf (.builtin id) = pure (.type "method_descriptor")) (hm : MtR X id r) (ho : PE X o to)
    (hbase : attributeBase o name X.env (eval o X.env) = eval o X.env := by rfl) (hline : (apos.endLine == cpos.line) = true := by rfl) (hK : X.K = K := by rfl) : PE X (.Call (.Attribute o name apos) [] [] cpos) (tBM0 K T r to) := by
  subst hK; exact pe_bm0 pa slot hty hm ho hbase hline
theorem kbm (K : PySem.W.Frag) (pa : PlainAttrs T) (slot : Slot T name id) (hty : typeOf (.builtin id) = pure (.type "method_descriptor")) (hm : MtR X id r) (ho : PE X o to) (ha : PA X (e :: es) t)
    (hbase : attributeBase o name X.env (eval o X.env) = eval o X.env := by rfl)
    (hfew : ((backTo cpos (starEach (e :: es) X.env)).all (fun x => !x.1) && (backToKw cpos (keywordEach [] X.env)).all (fun x => x.1.isSome) && decide ((e :: es).length + ([] : List Keyword).length + (if ([] : List Keyword).isEmpty then 0 else 1) < 30)) = true := by rfl)
    (hline : (apos.endLine == cpos.line) = true := by rfl) (hs : starEach (e :: es) X.env = (false, eval e X.env) :: starEach es X.env := by rfl) (hpl : (backTo cpos (starEach es X.env)).any (·.1) = false := by rfl) (hK : X.K = K := by rfl) :
    PE X (.Call (.Attribute o name apos) (e :: es) [] cpos) (tBM K T r to t) := by
  subst hK; exact pe_bm pa slot hty hm ho ha hbase hfew hline hs hpl
theorem krevL (K : PySem.W.Frag) {k : Nat} {p1 : Pos} (he : PE X e te) (hK : X.K = K := by rfl) : PE X (.Subscript e (.Slice none none (some (.UnaryOp .USub (.Constant (.int 1) k p1) p2)) p3) pos) (tRevL K te) := by subst hK; exact pe_revL he
theorem kiL (K : PySem.W.Frag) {tg : Expr} (he : PE X e te) (hK : X.K = K := by rfl) : PI X tg e (iList K te) := by subst hK; exact pi_list he
theorem kiT (K : PySem.W.Frag) {tg : Expr} (he : PE X e te) (hK : X.K = K := by rfl) : PI X tg e (iTup K te) := by subst hK; exact pi_tup he
theorem kiRev (K : PySem.W.Frag) {tg : Expr} (hg : Gl X "reversed") (hm : X.mg "reversed" = none) (ha : PA X [e] t) (hs : starEach [e] X.env = [(false, eval e X.env)] := by rfl) (hK : X.K = K := by rfl) :
    PI X tg (.Call (.Name "reversed" p) [e] [] pos) (iRev K t) := by subst hK; exact pi_reversed hg hm ha hs
theorem kgT (K : PySem.W.Frag) {k n : Nat} {tgs : TGs} (hc : X.calm = true) (h : PGs X es tgs) (hn : (assignEach es X.env).length = n := by rfl) (hst : (assignEach es X.env).findIdx? (·.1) = none := by rfl) (hK : X.K = K := by rfl) :
    PG X (.Tuple es k pos) (gTup K n tgs) := by subst hK; exact pg_tup hc h hn hst
def tTru (K : PySem.W.Frag) (te : TE) : TT := fun σ H Q => te σ H fun x H1 => ∃ k, TruV K x H1 k ∧ Q k H1
theorem ktru (K : PySem.W.Frag) (ha : PE X a ta) (he : ∀ whole, isTrue a X.env whole = (do let v ← whole; standAt a.pos; holding [v] (truthy v)) := by intro _; rfl) (hK : X.K = K := by rfl) : PT X a (tTru K ta) := by subst hK; exact pt_truth ha he
theorem krepr (K : PySem.W.Frag) {k : Nat} (hr : RG k X.A) (hm : X.mg "repr" = none) (he : PE X e te) (hg : Gl X "repr" := by rfl)
    (hs : starEach (e :: []) X.env = (false, eval e X.env) :: starEach [] X.env := by rfl) (hpl : (backTo pos (starEach [] X.env)).any (·.1) = false := by rfl) (hK : X.K = K := by rfl) :
    PE X (.Call (.Name "repr" p) [e] [] pos) (tCB (rRepr K) (tCons te tNil)) := by subst hK; exact pe_callB (call_repr hr) hg hm boot_repr (pa_cons he pa_nil hs) (by decide) (by decide) hs hpl
theorem ksFld (K : PySem.W.Frag) {p' : Pos} {v : Expr} {tv : TE} (ha : PE X o to) (hv : PE X v tv) (hs : swapsWith v (some (.Attribute o f p')) pos.line X.env = pure false := by rfl) (hK : X.K = K := by rfl) : PS X (.Assign [.Attribute o f p'] v pos) (sFld K to tv f) := by subst hK; exact ps_fld ha hv hs
end
end FG

/-! GRepr: the texts of small data fit. -/
namespace FG
open PySem PySem.Spec L2
open PyProof.Rows hiding St
mutual
/-- numbers of at most 38 figures, signs below 16 ^ 8 -/
def okD : PyData → Bool
  | .none | .bool _ => true
  | .int i => decide (i.natAbs < 10 ^ 38)
  | .str x => x.cps.toList.all fun c => c < 16 ^ 8
  | .list xs | .tuple xs => okDs xs
  | .dict _ => false
def okDs : List PyData → Bool
  | [] => true
  | x :: xs => okD x && okDs xs
end
theorem int_short {i : Int} (h : i.natAbs < 10 ^ 38) : (PyData.shown (.int i)).length ≤ 40 := by
  have h1 := int_text_length_le10 (a := i) (k := 38) (by decide) h
  have h2 : (PyData.shown (.int i)).length = (toString i).length := by
    show (Str.ofString (toString i)).length = _
    rw [PySem.ofString_length]
  omega
theorem log_small {i : Int} (h : i.natAbs < 10 ^ 38) : i.natAbs.log2 < 1920 := log2_small (Nat.lt_trans h (by decide +kernel))
mutual
theorem okD_leaves : ∀ d : PyData, okD d = true → d.leavesShort 40 = true ∧ d.showable = true
  | .none, _ => ⟨by simp only [PyData.leavesShort], by simp only [PyData.showable]⟩
  | .bool _, _ => ⟨by simp only [PyData.leavesShort], by simp only [PyData.showable]⟩
  | .int i, h => by
    have h2 : i.natAbs < 10 ^ 38 := by simpa only [okD, decide_eq_true_eq] using h
    exact ⟨by simp only [PyData.leavesShort, decide_eq_true_eq]; exact int_short h2, by simp only [PyData.showable, decide_eq_true_eq]; exact log_small h2⟩
  | .str x, h => ⟨by simpa only [okD, PyData.leavesShort] using h, by simp only [PyData.showable]⟩
  | .list xs, h => by
    have z := okDs_leaves xs (by simpa only [okD] using h)
    exact ⟨by simp only [PyData.leavesShort]; exact z.1, by simp only [PyData.showable]; exact z.2⟩
  | .tuple xs, h => by
    have z := okDs_leaves xs (by simpa only [okD] using h)
    exact ⟨by simp only [PyData.leavesShort]; exact z.1, by simp only [PyData.showable]; exact z.2⟩
  | .dict _, h => by simp [okD] at h
theorem okDs_leaves : ∀ ds : List PyData, okDs ds = true → PyData.leavesShortAll 40 ds = true ∧ PyData.showableAll ds = true
  | [], _ => ⟨by simp only [PyData.leavesShortAll], by simp only [PyData.showableAll]⟩
  | d :: ds, h => by
    have h2 : okD d = true ∧ okDs ds = true := by simpa only [okDs, Bool.and_eq_true] using h
    have a := okD_leaves d h2.1
    have b := okDs_leaves ds h2.2
    exact ⟨by simp only [PyData.leavesShortAll, a.1, b.1, Bool.and_self], by simp only [PyData.showableAll, a.2, b.2, Bool.and_self]⟩
end
theorem shw_at {K : PySem.W.Frag} {v : V} {d : PyData} {H : Hp} (hd : Dp K H v d) (ok : okD d = true) (hb : d.bulk ≤ 300000) (hdep : d.depth ≤ 60) : Shw K H v d := by
  obtain ⟨h1, h2⟩ := okD_leaves d ok
  refine ⟨hd, h2, ?_, hdep⟩
  have := PyData.shown_le_bulk 40 (by decide) d h1
  rw [sizeLine_eq]
  omega
theorem okDs_of {ds : List PyData} (h : ∀ d ∈ ds, okD d = true) : okDs ds = true := by
  induction ds with
  | nil => simp only [okDs]
  | cons d ds ih =>
    simp only [okDs, Bool.and_eq_true]
    exact ⟨h d (by simp), ih fun x hx => h x (by simp [hx])⟩
theorem bulk_flat {ds : List PyData} (h : ∀ d ∈ ds, d.bulk = 0) : PyData.bulkAll ds = ds.length := by
  induction ds with
  | nil => simp only [PyData.bulkAll, List.length_nil]
  | cons d ds ih =>
    simp only [PyData.bulkAll, List.length_cons]
    rw [h d (by simp), ih fun x hx => h x (by simp [hx])]; omega
theorem depth_flat {ds : List PyData} (h : ∀ d ∈ ds, d.depth = 0) : PyData.depthAll ds = 0 := by
  induction ds with
  | nil => simp only [PyData.depthAll]
  | cons d ds ih =>
    simp only [PyData.depthAll]
    rw [h d (by simp), ih fun x hx => h x (by simp [hx])]; rfl
theorem shw_int {K : PySem.W.Frag} {i : Int} {H : Hp} (h : i.natAbs < 10 ^ 38) : Shw K H (.int i) (.int i) :=
  shw_at (.int i) (by simp only [okD, decide_eq_true_eq]; exact h) (by simp only [PyData.bulk]; omega) (by simp only [PyData.depth]; omega)
theorem shw_small {K : PySem.W.Frag} {i : Int} {H : Hp} (h : i.natAbs < 1000000000000) : Shw K H (.int i) (.int i) := shw_int (Nat.lt_trans h (by decide))
theorem shw_bool {K : PySem.W.Frag} {b : Bool} {H : Hp} : Shw K H (.bl b) (.bool b) :=
  shw_at (.bl b) (by simp only [okD]) (by simp only [PyData.bulk]; omega) (by simp only [PyData.depth]; omega)
theorem shw_none {K : PySem.W.Frag} {H : Hp} : Shw K H .non .none :=
  shw_at .non (by simp only [okD]) (by simp only [PyData.bulk]; omega) (by simp only [PyData.depth]; omega)
end FG

/-! short tactics of our own, local to this text -/
local macro_rules | `(tactic| walk_at "ne") => `(tactic| first | assumption | (apply Ne.symm; assumption) | grind)
local macro_rules | `(tactic| walk_at "hl") => `(tactic| first | assumption | exact L2.upd_same | exact (L2.upd_ne (by walk_at "ne")).trans (by walk_at "hl"))
local macro_rules | `(tactic| walk_at "c") => `(tactic| first | omega | (refine ⟨?_, ?_⟩ <;> omega) | (refine ⟨?_, ?_, ?_⟩ <;> omega) | decide)
/-- one step of a reading -/
local macro_rules | `(tactic| walk_at "r1") => `(tactic| first
  | refine ⟨_, rfl, ?_⟩
  | refine ⟨_, _, rfl, rfl, ?_⟩
  | refine ⟨_, _, _, _, rfl, rfl, SqL.of (by walk_at "hl"), rfl, ?_⟩
  | refine ⟨_, _, rfl, .inl (SqL.of (by walk_at "hl")), ?_⟩
  | refine ⟨_, _, rfl, rfl, (by walk_at "c"), ?_⟩
  | refine ⟨_, _, rfl, rfl, .inl (by walk_at "c"), ?_⟩)
local macro_rules | `(tactic| walk_at "rd") => `(tactic| repeat walk_at "r1")
namespace Lw
open PySem PySem.Spec L2 FG
open PyProof.Rows hiding St
def top (i : Nat) : Stmt := PySem.Challenge.pw_framerooms_k06_whole_frames_in_frames.main.body.getD i (.Pass ⟨0, 0, 0, 0⟩)
abbrev s_is_number : Stmt := top 7
abbrev s_is_whole : Stmt := top 8
abbrev s__law_cell : Stmt := top 13
abbrev s__law_box : Stmt := top 14
abbrev s__law_take : Stmt := top 15
abbrev s__law_model : Stmt := top 16
abbrev s__law_standing : Stmt := top 17
abbrev s__law_row : Stmt := top 18
abbrev s__law_begin : Stmt := top 19
abbrev s__law_finish : Stmt := top 20
abbrev s__law_one : Stmt := top 21
abbrev s__law_deed : Stmt := top 22
abbrev s__law_within : Stmt := top 23
abbrev s__law_told_right : Stmt := top 24
abbrev s__law_hangs_right : Stmt := top 25
abbrev s_law : Stmt := top 26
abbrev s_NoFrame___init__ : Stmt := inClass (top 2) 0
abbrev s_Gone___init__ : Stmt := inClass (top 3) 0
abbrev s_TooMany___init__ : Stmt := inClass (top 5) 0
abbrev s_Frames___init__ : Stmt := inClass (top 11) 0
abbrev s_Frames_need_begun : Stmt := inClass (top 11) 1
abbrev s_Frames_need_standing : Stmt := inClass (top 11) 2
abbrev s_Frames_need_more : Stmt := inClass (top 11) 3
abbrev s_Frames_begin : Stmt := inClass (top 11) 4
abbrev s_Frames_finish : Stmt := inClass (top 11) 5
abbrev s_Frames_clear : Stmt := inClass (top 11) 6
abbrev s_Frames_stands : Stmt := inClass (top 11) 7
abbrev s_Frames_inside : Stmt := inClass (top 11) 8
abbrev s_Frames_row : Stmt := inClass (top 11) 9
abbrev s_Frames_within : Stmt := inClass (top 11) 10
abbrev s_Frames_ended_by : Stmt := inClass (top 11) 11
abbrev s_Frames_standing : Stmt := inClass (top 11) 12
abbrev s_Frames_begun : Stmt := inClass (top 11) 13
theorem sc_is_number : FnScope ["thing"] ["thing"] (defScope s_is_number) := ⟨rfl, rfl, rfl, by decide +kernel, rfl, by decide +kernel, by decide +kernel⟩
theorem sc_is_whole : FnScope ["thing", "low", "high"] ["thing", "low", "high"] (defScope s_is_whole) := ⟨rfl, rfl, rfl, by decide +kernel, rfl, by decide +kernel, by decide +kernel⟩
theorem sc__law_cell : FnScope ["_law_script", "_law_k"] ["_law_script", "_law_k"] (defScope s__law_cell) := ⟨rfl, rfl, rfl, by decide +kernel, rfl, by decide +kernel, by decide +kernel⟩
theorem sc__law_box : FnScope ["_law_cell_here"] ["_law_cell_here"] (defScope s__law_box) := ⟨rfl, rfl, rfl, by decide +kernel, rfl, by decide +kernel, by decide +kernel⟩
theorem sc__law_take : FnScope ["_law_box_here", "_law_many", "_law_digit", "_law_one_here", "_law_other"] ["_law_box_here", "_law_many"] (defScope s__law_take) := ⟨rfl, rfl, rfl, by decide +kernel, rfl, by decide +kernel, by decide +kernel⟩
theorem sc__law_model : FnScope [] [] (defScope s__law_model) := ⟨rfl, rfl, rfl, by decide +kernel, rfl, by decide +kernel, by decide +kernel⟩
theorem sc__law_standing : FnScope ["_law_model_here", "_law_k"] ["_law_model_here"] (defScope s__law_standing) := ⟨rfl, rfl, rfl, by decide +kernel, rfl, by decide +kernel, by decide +kernel⟩
theorem sc__law_row : FnScope ["_law_model_here", "_law_frame", "_law_found"] ["_law_model_here", "_law_frame"] (defScope s__law_row) := ⟨rfl, rfl, rfl, by decide +kernel, rfl, by decide +kernel, by decide +kernel⟩
theorem sc__law_begin : FnScope ["_law_model_here", "_law_frame"] ["_law_model_here", "_law_frame"] (defScope s__law_begin) := ⟨rfl, rfl, rfl, by decide +kernel, rfl, by decide +kernel, by decide +kernel⟩
theorem sc__law_finish : FnScope ["_law_model_here", "_law_frame", "_law_ended", "_law_k"] ["_law_model_here", "_law_frame"] (defScope s__law_finish) := ⟨rfl, rfl, rfl, by decide +kernel, rfl, by decide +kernel, by decide +kernel⟩
theorem sc__law_one : FnScope ["_law_box_here", "_law_some", "_law_way", "_law_at"] ["_law_box_here", "_law_some"] (defScope s__law_one) := ⟨rfl, rfl, rfl, by decide +kernel, rfl, by decide +kernel, by decide +kernel⟩
theorem sc__law_deed : FnScope ["_law_box_here", "_law_frames", "_law_model_here", "_law_ends", "_law_frame"] ["_law_box_here", "_law_frames", "_law_model_here"] (defScope s__law_deed) := ⟨rfl, rfl, rfl, by decide +kernel, rfl, by decide +kernel, by decide +kernel⟩
theorem sc__law_within : FnScope ["_law_model_here", "_law_frame", "_law_k"] ["_law_model_here", "_law_frame"] (defScope s__law_within) := ⟨rfl, rfl, rfl, by decide +kernel, rfl, by decide +kernel, by decide +kernel⟩
theorem sc__law_told_right : FnScope ["_law_frames", "_law_model_here", "_law_frame", "_law_due", "_law_turn", "_law_found", "_law_told"] ["_law_frames", "_law_model_here", "_law_frame"] (defScope s__law_told_right) := ⟨rfl, rfl, rfl, by decide +kernel, rfl, by decide +kernel, by decide +kernel⟩
theorem sc__law_hangs_right : FnScope ["_law_frames", "_law_model_here", "_law_frame", "_law_row_here", "_law_by", "_law_one_here"] ["_law_frames", "_law_model_here"] (defScope s__law_hangs_right) := ⟨rfl, rfl, rfl, by decide +kernel, rfl, by decide +kernel, by decide +kernel⟩
theorem sc_law : FnScope ["_law_script", "_law_both", "_law_models", "_law_k", "_law_box_here", "_law_at", "_law_asked", "_law_first", "_law_turn", "_law_frame", "_law_frames", "_law_model_here"] ["_law_script"] (defScope s_law) := ⟨rfl, rfl, rfl, by decide +kernel, rfl, by decide +kernel, by decide +kernel⟩
theorem sc_Frames___init__ : FnScope ["self"] ["self"] (defScope s_Frames___init__) := ⟨rfl, rfl, rfl, by decide +kernel, rfl, by decide +kernel, by decide +kernel⟩
theorem sc_Frames_need_begun : FnScope ["self", "frame"] ["self", "frame"] (defScope s_Frames_need_begun) := ⟨rfl, rfl, rfl, by decide +kernel, rfl, by decide +kernel, by decide +kernel⟩
theorem sc_Frames_need_standing : FnScope ["self", "frame"] ["self", "frame"] (defScope s_Frames_need_standing) := ⟨rfl, rfl, rfl, by decide +kernel, rfl, by decide +kernel, by decide +kernel⟩
theorem sc_Frames_need_more : FnScope ["self"] ["self"] (defScope s_Frames_need_more) := ⟨rfl, rfl, rfl, by decide +kernel, rfl, by decide +kernel, by decide +kernel⟩
theorem sc_Frames_begin : FnScope ["self", "frame"] ["self", "frame"] (defScope s_Frames_begin) := ⟨rfl, rfl, rfl, by decide +kernel, rfl, by decide +kernel, by decide +kernel⟩
theorem sc_Frames_finish : FnScope ["self", "frame", "ended", "one"] ["self", "frame"] (defScope s_Frames_finish) := ⟨rfl, rfl, rfl, by decide +kernel, rfl, by decide +kernel, by decide +kernel⟩
theorem sc_Frames_clear : FnScope ["self", "frame"] ["self", "frame"] (defScope s_Frames_clear) := ⟨rfl, rfl, rfl, by decide +kernel, rfl, by decide +kernel, by decide +kernel⟩
theorem sc_Frames_stands : FnScope ["self", "thing"] ["self", "thing"] (defScope s_Frames_stands) := ⟨rfl, rfl, rfl, by decide +kernel, rfl, by decide +kernel, by decide +kernel⟩
theorem sc_Frames_inside : FnScope ["self", "frame"] ["self", "frame"] (defScope s_Frames_inside) := ⟨rfl, rfl, rfl, by decide +kernel, rfl, by decide +kernel, by decide +kernel⟩
theorem sc_Frames_row : FnScope ["self", "frame", "found", "at"] ["self", "frame"] (defScope s_Frames_row) := ⟨rfl, rfl, rfl, by decide +kernel, rfl, by decide +kernel, by decide +kernel⟩
theorem sc_Frames_within : FnScope ["self", "frame", "one"] ["self", "frame"] (defScope s_Frames_within) := ⟨rfl, rfl, rfl, by decide +kernel, rfl, by decide +kernel, by decide +kernel⟩
theorem sc_Frames_ended_by : FnScope ["self", "frame"] ["self", "frame"] (defScope s_Frames_ended_by) := ⟨rfl, rfl, rfl, by decide +kernel, rfl, by decide +kernel, by decide +kernel⟩
theorem sc_Frames_standing : FnScope ["self", "one"] ["self"] (defScope s_Frames_standing) := ⟨rfl, rfl, rfl, by decide +kernel, rfl, by decide +kernel, by decide +kernel⟩
theorem sc_Frames_begun : FnScope ["self"] ["self"] (defScope s_Frames_begun) := ⟨rfl, rfl, rfl, by decide +kernel, rfl, by decide +kernel, by decide +kernel⟩
structure Tx (K : PySem.W.Frag) (mg : Str → Option Value) : Prop where
  g_is_number : mg "is_number" = some (.ref (He.ga K "is_number"))
  g_is_whole : mg "is_whole" = some (.ref (He.ga K "is_whole"))
  g__law_cell : mg "_law_cell" = some (.ref (He.ga K "_law_cell"))
  g__law_box : mg "_law_box" = some (.ref (He.ga K "_law_box"))
  g__law_take : mg "_law_take" = some (.ref (He.ga K "_law_take"))
  g__law_model : mg "_law_model" = some (.ref (He.ga K "_law_model"))
  g__law_standing : mg "_law_standing" = some (.ref (He.ga K "_law_standing"))
  g__law_row : mg "_law_row" = some (.ref (He.ga K "_law_row"))
  g__law_begin : mg "_law_begin" = some (.ref (He.ga K "_law_begin"))
  g__law_finish : mg "_law_finish" = some (.ref (He.ga K "_law_finish"))
  g__law_one : mg "_law_one" = some (.ref (He.ga K "_law_one"))
  g__law_deed : mg "_law_deed" = some (.ref (He.ga K "_law_deed"))
  g__law_within : mg "_law_within" = some (.ref (He.ga K "_law_within"))
  g__law_told_right : mg "_law_told_right" = some (.ref (He.ga K "_law_told_right"))
  g__law_hangs_right : mg "_law_hangs_right" = some (.ref (He.ga K "_law_hangs_right"))
  g_law : mg "law" = some (.ref (He.ga K "law"))
  g_Frames : mg "Frames" = some (.ref (He.ga K "Frames"))
  z_len : mg "len" = none
  z_range : mg "range" = none
  z_repr : mg "repr" = none
  z_isinstance : mg "isinstance" = none
  z_int : mg "int" = none
  z_bool : mg "bool" = none
  z_max : mg "max" = none
  z_min : mg "min" = none
  z_reversed : mg "reversed" = none
  z_zip : mg "zip" = none
  i_MOST : ∃ t, mg "MOST" = some (.int 100 t)
  c_Frames : Cls K (He.ga K "Frames")
  n_Frames_holders : NoAttr K (He.ga K "Frames") "holders"
  n_Frames_takers : NoAttr K (He.ga K "Frames") "takers"
  m_Frames_need_begun : Meth K (He.ga K "Frames") "need_begun" (He.ma K (He.ga K "Frames") "need_begun")
  m_Frames_need_standing : Meth K (He.ga K "Frames") "need_standing" (He.ma K (He.ga K "Frames") "need_standing")
  m_Frames_need_more : Meth K (He.ga K "Frames") "need_more" (He.ma K (He.ga K "Frames") "need_more")
  m_Frames_begin : Meth K (He.ga K "Frames") "begin" (He.ma K (He.ga K "Frames") "begin")
  m_Frames_finish : Meth K (He.ga K "Frames") "finish" (He.ma K (He.ga K "Frames") "finish")
  m_Frames_clear : Meth K (He.ga K "Frames") "clear" (He.ma K (He.ga K "Frames") "clear")
  m_Frames_stands : Meth K (He.ga K "Frames") "stands" (He.ma K (He.ga K "Frames") "stands")
  m_Frames_inside : Meth K (He.ga K "Frames") "inside" (He.ma K (He.ga K "Frames") "inside")
  m_Frames_row : Meth K (He.ga K "Frames") "row" (He.ma K (He.ga K "Frames") "row")
  m_Frames_within : Meth K (He.ga K "Frames") "within" (He.ma K (He.ga K "Frames") "within")
  m_Frames_ended_by : Meth K (He.ga K "Frames") "ended_by" (He.ma K (He.ga K "Frames") "ended_by")
  m_Frames_standing : Meth K (He.ga K "Frames") "standing" (He.ma K (He.ga K "Frames") "standing")
  m_Frames_begun : Meth K (He.ga K "Frames") "begun" (He.ma K (He.ga K "Frames") "begun")
  k_Frames : Mk K (He.ga K "Frames") (He.ma K (He.ga K "Frames") "__init__")
  F_is_number : ∃ fd, Fun K "is_number" "is_number" s_is_number (He.ga K "is_number") fd
  F_is_whole : ∃ fd, Fun K "is_whole" "is_whole" s_is_whole (He.ga K "is_whole") fd
  F__law_cell : ∃ fd, Fun K "_law_cell" "_law_cell" s__law_cell (He.ga K "_law_cell") fd
  F__law_box : ∃ fd, Fun K "_law_box" "_law_box" s__law_box (He.ga K "_law_box") fd
  F__law_take : ∃ fd, Fun K "_law_take" "_law_take" s__law_take (He.ga K "_law_take") fd
  F__law_model : ∃ fd, Fun K "_law_model" "_law_model" s__law_model (He.ga K "_law_model") fd
  F__law_standing : ∃ fd, Fun K "_law_standing" "_law_standing" s__law_standing (He.ga K "_law_standing") fd
  F__law_row : ∃ fd, Fun K "_law_row" "_law_row" s__law_row (He.ga K "_law_row") fd
  F__law_begin : ∃ fd, Fun K "_law_begin" "_law_begin" s__law_begin (He.ga K "_law_begin") fd
  F__law_finish : ∃ fd, Fun K "_law_finish" "_law_finish" s__law_finish (He.ga K "_law_finish") fd
  F__law_one : ∃ fd, Fun K "_law_one" "_law_one" s__law_one (He.ga K "_law_one") fd
  F__law_deed : ∃ fd, Fun K "_law_deed" "_law_deed" s__law_deed (He.ga K "_law_deed") fd
  F__law_within : ∃ fd, Fun K "_law_within" "_law_within" s__law_within (He.ga K "_law_within") fd
  F__law_told_right : ∃ fd, Fun K "_law_told_right" "_law_told_right" s__law_told_right (He.ga K "_law_told_right") fd
  F__law_hangs_right : ∃ fd, Fun K "_law_hangs_right" "_law_hangs_right" s__law_hangs_right (He.ga K "_law_hangs_right") fd
  F_law : ∃ fd, Fun K "law" "law" s_law (He.ga K "law") fd
  F_Frames___init__ : ∃ fd, Fun K "__init__" "Frames.__init__" s_Frames___init__ (He.ma K (He.ga K "Frames") "__init__") fd
  F_Frames_need_begun : ∃ fd, Fun K "need_begun" "Frames.need_begun" s_Frames_need_begun (He.ma K (He.ga K "Frames") "need_begun") fd
  F_Frames_need_standing : ∃ fd, Fun K "need_standing" "Frames.need_standing" s_Frames_need_standing (He.ma K (He.ga K "Frames") "need_standing") fd
  F_Frames_need_more : ∃ fd, Fun K "need_more" "Frames.need_more" s_Frames_need_more (He.ma K (He.ga K "Frames") "need_more") fd
  F_Frames_begin : ∃ fd, Fun K "begin" "Frames.begin" s_Frames_begin (He.ma K (He.ga K "Frames") "begin") fd
  F_Frames_finish : ∃ fd, Fun K "finish" "Frames.finish" s_Frames_finish (He.ma K (He.ga K "Frames") "finish") fd
  F_Frames_clear : ∃ fd, Fun K "clear" "Frames.clear" s_Frames_clear (He.ma K (He.ga K "Frames") "clear") fd
  F_Frames_stands : ∃ fd, Fun K "stands" "Frames.stands" s_Frames_stands (He.ma K (He.ga K "Frames") "stands") fd
  F_Frames_inside : ∃ fd, Fun K "inside" "Frames.inside" s_Frames_inside (He.ma K (He.ga K "Frames") "inside") fd
  F_Frames_row : ∃ fd, Fun K "row" "Frames.row" s_Frames_row (He.ma K (He.ga K "Frames") "row") fd
  F_Frames_within : ∃ fd, Fun K "within" "Frames.within" s_Frames_within (He.ma K (He.ga K "Frames") "within") fd
  F_Frames_ended_by : ∃ fd, Fun K "ended_by" "Frames.ended_by" s_Frames_ended_by (He.ma K (He.ga K "Frames") "ended_by") fd
  F_Frames_standing : ∃ fd, Fun K "standing" "Frames.standing" s_Frames_standing (He.ma K (He.ga K "Frames") "standing") fd
  F_Frames_begun : ∃ fd, Fun K "begun" "Frames.begun" s_Frames_begun (He.ma K (He.ga K "Frames") "begun") fd
def d_is_number : He.DefD := ⟨("is_number", none), "is_number", "is_number", defArgs s_is_number, defBody s_is_number, defScope s_is_number, [], []⟩
def d_is_whole : He.DefD := ⟨("is_whole", none), "is_whole", "is_whole", defArgs s_is_whole, defBody s_is_whole, defScope s_is_whole, [], []⟩
def d__law_cell : He.DefD := ⟨("_law_cell", none), "_law_cell", "_law_cell", defArgs s__law_cell, defBody s__law_cell, defScope s__law_cell, [], []⟩
def d__law_box : He.DefD := ⟨("_law_box", none), "_law_box", "_law_box", defArgs s__law_box, defBody s__law_box, defScope s__law_box, [], []⟩
def d__law_take : He.DefD := ⟨("_law_take", none), "_law_take", "_law_take", defArgs s__law_take, defBody s__law_take, defScope s__law_take, [], []⟩
def d__law_model : He.DefD := ⟨("_law_model", none), "_law_model", "_law_model", defArgs s__law_model, defBody s__law_model, defScope s__law_model, [], []⟩
def d__law_standing : He.DefD := ⟨("_law_standing", none), "_law_standing", "_law_standing", defArgs s__law_standing, defBody s__law_standing, defScope s__law_standing, [], []⟩
def d__law_row : He.DefD := ⟨("_law_row", none), "_law_row", "_law_row", defArgs s__law_row, defBody s__law_row, defScope s__law_row, [], []⟩
def d__law_begin : He.DefD := ⟨("_law_begin", none), "_law_begin", "_law_begin", defArgs s__law_begin, defBody s__law_begin, defScope s__law_begin, [], []⟩
def d__law_finish : He.DefD := ⟨("_law_finish", none), "_law_finish", "_law_finish", defArgs s__law_finish, defBody s__law_finish, defScope s__law_finish, [], []⟩
def d__law_one : He.DefD := ⟨("_law_one", none), "_law_one", "_law_one", defArgs s__law_one, defBody s__law_one, defScope s__law_one, [], []⟩
def d__law_deed : He.DefD := ⟨("_law_deed", none), "_law_deed", "_law_deed", defArgs s__law_deed, defBody s__law_deed, defScope s__law_deed, [], []⟩
def d__law_within : He.DefD := ⟨("_law_within", none), "_law_within", "_law_within", defArgs s__law_within, defBody s__law_within, defScope s__law_within, [], []⟩
def d__law_told_right : He.DefD := ⟨("_law_told_right", none), "_law_told_right", "_law_told_right", defArgs s__law_told_right, defBody s__law_told_right, defScope s__law_told_right, [], []⟩
def d__law_hangs_right : He.DefD := ⟨("_law_hangs_right", none), "_law_hangs_right", "_law_hangs_right", defArgs s__law_hangs_right, defBody s__law_hangs_right, defScope s__law_hangs_right, [], []⟩
def d_law : He.DefD := ⟨("law", none), "law", "law", defArgs s_law, defBody s_law, defScope s_law, [], []⟩
def d_Frames___init__ : He.DefD := ⟨("Frames", some "__init__"), "__init__", "Frames.__init__", defArgs s_Frames___init__, defBody s_Frames___init__, defScope s_Frames___init__, [], []⟩
def d_Frames_need_begun : He.DefD := ⟨("Frames", some "need_begun"), "need_begun", "Frames.need_begun", defArgs s_Frames_need_begun, defBody s_Frames_need_begun, defScope s_Frames_need_begun, [], []⟩
def d_Frames_need_standing : He.DefD := ⟨("Frames", some "need_standing"), "need_standing", "Frames.need_standing", defArgs s_Frames_need_standing, defBody s_Frames_need_standing, defScope s_Frames_need_standing, [], []⟩
def d_Frames_need_more : He.DefD := ⟨("Frames", some "need_more"), "need_more", "Frames.need_more", defArgs s_Frames_need_more, defBody s_Frames_need_more, defScope s_Frames_need_more, [], []⟩
def d_Frames_begin : He.DefD := ⟨("Frames", some "begin"), "begin", "Frames.begin", defArgs s_Frames_begin, defBody s_Frames_begin, defScope s_Frames_begin, [], []⟩
def d_Frames_finish : He.DefD := ⟨("Frames", some "finish"), "finish", "Frames.finish", defArgs s_Frames_finish, defBody s_Frames_finish, defScope s_Frames_finish, [], []⟩
def d_Frames_clear : He.DefD := ⟨("Frames", some "clear"), "clear", "Frames.clear", defArgs s_Frames_clear, defBody s_Frames_clear, defScope s_Frames_clear, [], []⟩
def d_Frames_stands : He.DefD := ⟨("Frames", some "stands"), "stands", "Frames.stands", defArgs s_Frames_stands, defBody s_Frames_stands, defScope s_Frames_stands, [], []⟩
def d_Frames_inside : He.DefD := ⟨("Frames", some "inside"), "inside", "Frames.inside", defArgs s_Frames_inside, defBody s_Frames_inside, defScope s_Frames_inside, [], []⟩
def d_Frames_row : He.DefD := ⟨("Frames", some "row"), "row", "Frames.row", defArgs s_Frames_row, defBody s_Frames_row, defScope s_Frames_row, [], []⟩
def d_Frames_within : He.DefD := ⟨("Frames", some "within"), "within", "Frames.within", defArgs s_Frames_within, defBody s_Frames_within, defScope s_Frames_within, [], []⟩
def d_Frames_ended_by : He.DefD := ⟨("Frames", some "ended_by"), "ended_by", "Frames.ended_by", defArgs s_Frames_ended_by, defBody s_Frames_ended_by, defScope s_Frames_ended_by, [], []⟩
def d_Frames_standing : He.DefD := ⟨("Frames", some "standing"), "standing", "Frames.standing", defArgs s_Frames_standing, defBody s_Frames_standing, defScope s_Frames_standing, [], []⟩
def d_Frames_begun : He.DefD := ⟨("Frames", some "begun"), "begun", "Frames.begun", defArgs s_Frames_begun, defBody s_Frames_begun, defScope s_Frames_begun, [], []⟩
def fnL : List He.DefD := [d_is_number, d_is_whole, d__law_cell, d__law_box, d__law_take, d__law_model, d__law_standing, d__law_row, d__law_begin, d__law_finish, d__law_one, d__law_deed, d__law_within, d__law_told_right, d__law_hangs_right, d_law, d_Frames___init__, d_Frames_need_begun, d_Frames_need_standing, d_Frames_need_more, d_Frames_begin, d_Frames_finish, d_Frames_clear, d_Frames_stands, d_Frames_inside, d_Frames_row, d_Frames_within, d_Frames_ended_by, d_Frames_standing, d_Frames_begun]
def faL : List He.Fa := [.glo "is_number", .glo "is_whole", .glo "_law_cell", .glo "_law_box", .glo "_law_take", .glo "_law_model", .glo "_law_standing", .glo "_law_row", .glo "_law_begin", .glo "_law_finish", .glo "_law_one", .glo "_law_deed", .glo "_law_within", .glo "_law_told_right", .glo "_law_hangs_right", .glo "law", .glo "Frames", .free "len", .free "range", .free "repr", .free "isinstance", .free "int", .free "bool", .free "max", .free "min", .free "reversed", .free "zip", .int "MOST" 100, .cls "Frames", .noat "Frames" "holders", .noat "Frames" "takers", .meth "Frames" "need_begun", .meth "Frames" "need_standing", .meth "Frames" "need_more", .meth "Frames" "begin", .meth "Frames" "finish", .meth "Frames" "clear", .meth "Frames" "stands", .meth "Frames" "inside", .meth "Frames" "row", .meth "Frames" "within", .meth "Frames" "ended_by", .meth "Frames" "standing", .meth "Frames" "begun", .mkr "Frames"]
theorem tx_of {K : PySem.W.Frag} {h : Heap} {mg : Str → Option Value} (X : K.In h) (G : h.Ns mainGlobals mg) (c : He.SaysD faL fnL K) : Tx K mg := ⟨
(He.glo_ok X G (c.fact 0 (f := .glo "is_number") rfl)),
  (He.glo_ok X G (c.fact 1 (f := .glo "is_whole") rfl)),
  (He.glo_ok X G (c.fact 2 (f := .glo "_law_cell") rfl)),
  (He.glo_ok X G (c.fact 3 (f := .glo "_law_box") rfl)),
  (He.glo_ok X G (c.fact 4 (f := .glo "_law_take") rfl)),
  (He.glo_ok X G (c.fact 5 (f := .glo "_law_model") rfl)),
  (He.glo_ok X G (c.fact 6 (f := .glo "_law_standing") rfl)),
  (He.glo_ok X G (c.fact 7 (f := .glo "_law_row") rfl)),
  (He.glo_ok X G (c.fact 8 (f := .glo "_law_begin") rfl)),
  (He.glo_ok X G (c.fact 9 (f := .glo "_law_finish") rfl)),
  (He.glo_ok X G (c.fact 10 (f := .glo "_law_one") rfl)),
  (He.glo_ok X G (c.fact 11 (f := .glo "_law_deed") rfl)),
  (He.glo_ok X G (c.fact 12 (f := .glo "_law_within") rfl)),
  (He.glo_ok X G (c.fact 13 (f := .glo "_law_told_right") rfl)),
  (He.glo_ok X G (c.fact 14 (f := .glo "_law_hangs_right") rfl)),
  (He.glo_ok X G (c.fact 15 (f := .glo "law") rfl)),
  (He.glo_ok X G (c.fact 16 (f := .glo "Frames") rfl)),
  (He.free_ok X G (c.fact 17 (f := .free "len") rfl)),
  (He.free_ok X G (c.fact 18 (f := .free "range") rfl)),
  (He.free_ok X G (c.fact 19 (f := .free "repr") rfl)),
  (He.free_ok X G (c.fact 20 (f := .free "isinstance") rfl)),
  (He.free_ok X G (c.fact 21 (f := .free "int") rfl)),
  (He.free_ok X G (c.fact 22 (f := .free "bool") rfl)),
  (He.free_ok X G (c.fact 23 (f := .free "max") rfl)),
  (He.free_ok X G (c.fact 24 (f := .free "min") rfl)),
  (He.free_ok X G (c.fact 25 (f := .free "reversed") rfl)),
  (He.free_ok X G (c.fact 26 (f := .free "zip") rfl)),
  (He.int_ok X G (c.fact 27 (f := .int "MOST" 100) rfl)),
  (He.cls_ok (c.fact 28 (f := .cls "Frames") rfl)),
  (He.noat_ok (c.fact 29 (f := .noat "Frames" "holders") rfl)),
  (He.noat_ok (c.fact 30 (f := .noat "Frames" "takers") rfl)),
  (He.meth_ok (c.fact 31 (f := .meth "Frames" "need_begun") rfl)),
  (He.meth_ok (c.fact 32 (f := .meth "Frames" "need_standing") rfl)),
  (He.meth_ok (c.fact 33 (f := .meth "Frames" "need_more") rfl)),
  (He.meth_ok (c.fact 34 (f := .meth "Frames" "begin") rfl)),
  (He.meth_ok (c.fact 35 (f := .meth "Frames" "finish") rfl)),
  (He.meth_ok (c.fact 36 (f := .meth "Frames" "clear") rfl)),
  (He.meth_ok (c.fact 37 (f := .meth "Frames" "stands") rfl)),
  (He.meth_ok (c.fact 38 (f := .meth "Frames" "inside") rfl)),
  (He.meth_ok (c.fact 39 (f := .meth "Frames" "row") rfl)),
  (He.meth_ok (c.fact 40 (f := .meth "Frames" "within") rfl)),
  (He.meth_ok (c.fact 41 (f := .meth "Frames" "ended_by") rfl)),
  (He.meth_ok (c.fact 42 (f := .meth "Frames" "standing") rfl)),
  (He.meth_ok (c.fact 43 (f := .meth "Frames" "begun") rfl)),
  (He.mkr_ok (c.fact 44 (f := .mkr "Frames") rfl)),
  (let ⟨fd, h⟩ := c.def_ 0 (d := d_is_number) rfl; ⟨fd, FG.toFun (st := s_is_number) h⟩),
  (let ⟨fd, h⟩ := c.def_ 1 (d := d_is_whole) rfl; ⟨fd, FG.toFun (st := s_is_whole) h⟩),
  (let ⟨fd, h⟩ := c.def_ 2 (d := d__law_cell) rfl; ⟨fd, FG.toFun (st := s__law_cell) h⟩),
  (let ⟨fd, h⟩ := c.def_ 3 (d := d__law_box) rfl; ⟨fd, FG.toFun (st := s__law_box) h⟩),
  (let ⟨fd, h⟩ := c.def_ 4 (d := d__law_take) rfl; ⟨fd, FG.toFun (st := s__law_take) h⟩),
  (let ⟨fd, h⟩ := c.def_ 5 (d := d__law_model) rfl; ⟨fd, FG.toFun (st := s__law_model) h⟩),
  (let ⟨fd, h⟩ := c.def_ 6 (d := d__law_standing) rfl; ⟨fd, FG.toFun (st := s__law_standing) h⟩),
  (let ⟨fd, h⟩ := c.def_ 7 (d := d__law_row) rfl; ⟨fd, FG.toFun (st := s__law_row) h⟩),
  (let ⟨fd, h⟩ := c.def_ 8 (d := d__law_begin) rfl; ⟨fd, FG.toFun (st := s__law_begin) h⟩),
  (let ⟨fd, h⟩ := c.def_ 9 (d := d__law_finish) rfl; ⟨fd, FG.toFun (st := s__law_finish) h⟩),
  (let ⟨fd, h⟩ := c.def_ 10 (d := d__law_one) rfl; ⟨fd, FG.toFun (st := s__law_one) h⟩),
  (let ⟨fd, h⟩ := c.def_ 11 (d := d__law_deed) rfl; ⟨fd, FG.toFun (st := s__law_deed) h⟩),
  (let ⟨fd, h⟩ := c.def_ 12 (d := d__law_within) rfl; ⟨fd, FG.toFun (st := s__law_within) h⟩),
  (let ⟨fd, h⟩ := c.def_ 13 (d := d__law_told_right) rfl; ⟨fd, FG.toFun (st := s__law_told_right) h⟩),
  (let ⟨fd, h⟩ := c.def_ 14 (d := d__law_hangs_right) rfl; ⟨fd, FG.toFun (st := s__law_hangs_right) h⟩),
  (let ⟨fd, h⟩ := c.def_ 15 (d := d_law) rfl; ⟨fd, FG.toFun (st := s_law) h⟩),
  (let ⟨fd, h⟩ := c.def_ 16 (d := d_Frames___init__) rfl; ⟨fd, FG.toFun (st := s_Frames___init__) h⟩),
  (let ⟨fd, h⟩ := c.def_ 17 (d := d_Frames_need_begun) rfl; ⟨fd, FG.toFun (st := s_Frames_need_begun) h⟩),
  (let ⟨fd, h⟩ := c.def_ 18 (d := d_Frames_need_standing) rfl; ⟨fd, FG.toFun (st := s_Frames_need_standing) h⟩),
  (let ⟨fd, h⟩ := c.def_ 19 (d := d_Frames_need_more) rfl; ⟨fd, FG.toFun (st := s_Frames_need_more) h⟩),
  (let ⟨fd, h⟩ := c.def_ 20 (d := d_Frames_begin) rfl; ⟨fd, FG.toFun (st := s_Frames_begin) h⟩),
  (let ⟨fd, h⟩ := c.def_ 21 (d := d_Frames_finish) rfl; ⟨fd, FG.toFun (st := s_Frames_finish) h⟩),
  (let ⟨fd, h⟩ := c.def_ 22 (d := d_Frames_clear) rfl; ⟨fd, FG.toFun (st := s_Frames_clear) h⟩),
  (let ⟨fd, h⟩ := c.def_ 23 (d := d_Frames_stands) rfl; ⟨fd, FG.toFun (st := s_Frames_stands) h⟩),
  (let ⟨fd, h⟩ := c.def_ 24 (d := d_Frames_inside) rfl; ⟨fd, FG.toFun (st := s_Frames_inside) h⟩),
  (let ⟨fd, h⟩ := c.def_ 25 (d := d_Frames_row) rfl; ⟨fd, FG.toFun (st := s_Frames_row) h⟩),
  (let ⟨fd, h⟩ := c.def_ 26 (d := d_Frames_within) rfl; ⟨fd, FG.toFun (st := s_Frames_within) h⟩),
  (let ⟨fd, h⟩ := c.def_ 27 (d := d_Frames_ended_by) rfl; ⟨fd, FG.toFun (st := s_Frames_ended_by) h⟩),
  (let ⟨fd, h⟩ := c.def_ 28 (d := d_Frames_standing) rfl; ⟨fd, FG.toFun (st := s_Frames_standing) h⟩),
  (let ⟨fd, h⟩ := c.def_ 29 (d := d_Frames_begun) rfl; ⟨fd, FG.toFun (st := s_Frames_begun) h⟩)⟩
end Lw
namespace Lw
open PySem PySem.Spec L2 FG
open PyProof.Rows hiding St
def names0 : List PySem.Str := ["__name__", "RoomError", "NoFrame", "Gone", "Ground", "TooMany", "is_number", "is_whole", "MOST", "Frames", "_law_cell", "_law_box", "_law_take", "_law_model", "_law_standing", "_law_row", "_law_begin", "_law_finish", "_law_one", "_law_deed", "_law_within", "_law_told_right", "_law_hangs_right"]
abbrev Rw : PySem.W.OpenRow := PySem.W.OpenLaw.row PySem.Challenge.rw_framerooms_k06_whole_frames_in_frames
abbrev hk : PySem.W.Hook := He.hookD 6 faL fnL
def ob (s : PySem.W.SharedT) : He.AlD := He.obsDG 6 faL fnL (HandSHeadRun.getT s)
theorem ob_eq (s : PySem.W.SharedT) : ob s = hk.obs s.abs := He.obsDG_eq (HandSHeadRun.getT_eq s)
theorem run (w : World) : HandSHeadRun.RunEq Rw (PySem.W.view Rw.prog [26]) hk ob 4500 (names0) w := by
  intro os
  kernel_rfl

end Lw
namespace Lw
open PySem PySem.Spec L2 FG
open PyProof.Rows hiding St
/-! ### the law's draws: a cell, a box, a take -/
/-- at b a box that has been asked at most n times behind its digits -/
def BoxAt (H : Hp) (b : Addr) (n : Int) : Prop := ∃ x y c : Int, H b = some (.lst [.int x, .int y, .int c]) ∧ 0 ≤ x ∧ 0 ≤ y ∧ y < 2147483629 ∧ 0 ≤ c ∧ c ≤ n
/-- all but b is as it was -/
def But (b : Addr) (H H' : Hp) : Prop := ∀ a, a ≠ b → H' a = H a
def spCell (K : PySem.W.Frag) : Sp := fun vs H Q _ => ∃ (a : Addr) (ns : List Int) (k : Nat), vs = [.ref a, .int k] ∧ SqL K H a (ns.map V.int) ∧ ∀ z : Int, Q (.int z) H
def spBox : Sp := fun vs H Q _ => ∃ z : Int, vs = [.int z] ∧ ∀ b H', H b = none → But b H H' → BoxAt H' b 0 → Q (.ref b) H'
def spTake : Sp := fun vs H Q _ => ∃ (b : Addr) (n m : Int), vs = [.ref b, .int m] ∧ BoxAt H b n ∧ n < 1000000000 ∧ 0 < m ∧ m < 2 ^ 60 ∧
  ∀ H' (d : Int), But b H H' → BoxAt H' b (n + 1) → 0 ≤ d → d < m → Q (.int d) H'
section
variable {P : Program} {w : World} {K : PySem.W.Frag} {mg : Str → Option Value} {base : Heap}
theorem ok_cell (T : Tx K mg) {fd : FuncData} (F : Fun K "_law_cell" "_law_cell" s__law_cell (He.ga K "_law_cell") fd) : FnG P w K mg base 1 (He.ga K "_law_cell") fd ["_law_script", "_law_k"] (spCell K) := by
  refine FnG.of F sc__law_cell (fun vs H Q E h => ?_) (fun cdv A outer s H vs Q E hr h => ?_)
  · obtain ⟨a, ns, k, rfl, _⟩ := h; rfl
  · obtain ⟨a, ns, k, rfl, hS, q⟩ := h
    refine ⟨_, pss_cons (ps_if (pt_cmpR op_lt (pv 1) (pe_callB (klen K) (by rfl) T.z_len PySem.boot_len (pa_cons (pv 0) (pa_nil))) (by first | exact nomark _ | rfl)) (pss_one (ps_ret (pe_ix (kixL K) (pv 0) (pv 1) (fun _ _ => rfl)))) (pss_nil))
      (pss_one (ps_ret (pe_op op_add (pe_op op_mul (pe_int) (pv 1)) (pe_int)))), ?_⟩
    refine ⟨_, rfl, _, rfl, a, _, rfl, .inl hS, _, _, rfl, rfl, _, rfl, ?_⟩
    refine ite2 (fun hlt => ?_) (fun hge => ?_)
    · have hk : k < ns.length := by simpa using hlt
      refine ⟨_, rfl, _, rfl, a, _, _, .int ns[k], rfl, rfl, hS, ?_, q _⟩
      exact atI_nat (by rw [List.getElem?_map, List.getElem?_eq_getElem hk]; rfl)
    · refine ⟨_, rfl, _, _, rfl, rfl, .inl ⟨by decide, by decide⟩, _, _, rfl, rfl, q _⟩
theorem ok_box (T : Tx K mg) {fd : FuncData} (F : Fun K "_law_box" "_law_box" s__law_box (He.ga K "_law_box") fd) : FnG P w K mg base 1 (He.ga K "_law_box") fd ["_law_cell_here"] spBox := by
  refine FnG.of F sc__law_box (fun vs H Q E h => ?_) (fun cdv A outer s H vs Q E hr h => ?_)
  · obtain ⟨z, rfl, _⟩ := h; rfl
  · obtain ⟨z, rfl, q⟩ := h
    refine ⟨_, pss_one (ps_ret (pe_lst (pa_cons (pe_callB (call_max2 rfl) (by rfl) T.z_max (by decide +kernel) (pa_cons (pe_int) (pa_cons (pe_op op_sub (pv 0) (pe_op op_pow (pe_int) (pe_int))) (pa_nil)))) (pa_cons (pe_op op_mod (pv 0) (pe_int)) (pa_cons (pe_int) (pa_nil)))))), ?_⟩
    refine ⟨_, rfl, _, _, rfl, rfl, ⟨by decide, by decide, by decide⟩, _, _, rfl, rfl, _, _, rfl, ?_⟩
    refine ⟨_, rfl, _, _, rfl, rfl, (by show (0 : Int) < 2147483629; decide), (by show 3 ≤ sizeLine; decide), fun b hb => q b _ hb (fun a ha => upd_ne ha) ⟨_, _, _, upd_same, ?_, ?_, ?_, by decide, by decide⟩⟩
    · split <;> omega
    · exact Int.emod_nonneg _ (by decide)
    · exact Int.emod_lt_of_pos _ (by decide)
theorem ok_take (T : Tx K mg) {fd : FuncData} (F : Fun K "_law_take" "_law_take" s__law_take (He.ga K "_law_take") fd) : FnG P w K mg base 1 (He.ga K "_law_take") fd ["_law_box_here", "_law_many"] spTake := by
  refine FnG.of F sc__law_take (fun vs H Q E h => ?_) (fun cdv A outer s H vs Q E hr h => ?_)
  · obtain ⟨b, n, m, rfl, _⟩ := h; rfl
  · obtain ⟨b, n, m, rfl, ⟨x, y, c, hb, hx, hy, hy2, hc, hcn⟩, hn, hm, hm2, q⟩ := h
    refine ⟨_, pss_cons (ps_if (pt_cmpR op_gt (pe_ix (kixL K) (pv 0) (pe_int) (fun _ _ => rfl)) (pe_int) (by first | exact nomark _ | rfl)) (pss_cons (ps_set (i := 2) sc__law_take.nd rfl (by first | exact Or.inl rfl | exact Or.inr rfl) (pe_op op_mod (pe_ix (kixL K) (pv 0) (pe_int) (fun _ _ => rfl)) (pv 1)))
      (pss_cons (ps_asg (pe_op op_fdivW (pe_ix (kixL K) (pv 0) (pe_int) (fun _ _ => rfl)) (pv 1)) (pg_sub (pv 0) (pe_int) set_list))
      (pss_one (ps_ret (pv 2))))) (pss_nil))
      (pss_cons (ps_asg (pe_op op_add (pe_ix (kixL K) (pv 0) (pe_int) (fun _ _ => rfl)) (pe_int)) (pg_sub (pv 0) (pe_int) set_list))
      (pss_cons (ps_set (i := 3) sc__law_take.nd rfl (by first | exact Or.inl rfl | exact Or.inr rfl) (pe_op op_mod (pe_op op_pow (pe_op op_add (pe_op op_add (pe_ix (kixL K) (pv 0) (pe_int) (fun _ _ => rfl)) (pe_op op_mul (pe_int) (pe_ix (kixL K) (pv 0) (pe_int) (fun _ _ => rfl)))) (pe_int)) (pe_int)) (pe_int)))
      (pss_cons (ps_set (i := 4) sc__law_take.nd rfl (by first | exact Or.inl rfl | exact Or.inr rfl) (pe_op op_mod (pe_op op_pow (pe_op op_add (pe_op op_add (pe_op op_fdiv (pv 3) (pe_int)) (pe_op op_mul (pe_int) (pe_ix (kixL K) (pv 0) (pe_int) (fun _ _ => rfl)))) (pe_int)) (pe_int)) (pe_int)))
      (pss_one (ps_ret (pe_op op_mod (pe_op op_add (pe_op op_fdiv (pv 3) (pe_int)) (pe_op op_mul (pe_int) (pe_op op_fdiv (pv 4) (pe_int)))) (pv 1))))))), ?_⟩
    refine ⟨_, rfl, _, _, _, _, rfl, rfl, SqL.of hb, rfl, _, _, rfl, rfl, _, rfl, ?_⟩
    refine ite2 (fun h0 => ?_) (fun h0 => ?_)
    · refine ⟨_, rfl, _, _, _, _, rfl, rfl, SqL.of hb, rfl, _, rfl, _, _, rfl, rfl, hm, ?_⟩
      refine ⟨_, rfl, _, _, _, _, rfl, rfl, SqL.of hb, rfl, _, rfl, _, _, rfl, rfl, wide_div hm (b := 60) (by omega) (by decide) (by decide), ?_⟩
      refine ⟨_, rfl, _, _, _, 0, rfl, rfl, hb, rfl, ?_⟩
      refine ⟨_, rfl, q _ _ (fun a ha => upd_ne ha) ⟨_, _, _, upd_same, Int.ediv_nonneg hx (by omega), hy, hy2, hc, by omega⟩ (Int.emod_nonneg _ (by omega)) (Int.emod_lt_of_pos _ hm)⟩
    · have e : x = 0 := by
        have z : ¬ (0 < x) := by simpa using h0
        omega
      subst e
      -- box[2] = box[2] + 1
      refine ⟨_, rfl, _, _, _, _, rfl, rfl, SqL.of hb, rfl, _, _, rfl, rfl, _, rfl, _, _, _, 2, rfl, rfl, hb, rfl, ?_⟩
      have hb2 : (upd H b (.lst [.int 0, .int y, .int (c + 1)])) b = some (.lst [.int 0, .int y, .int (c + 1)]) := upd_same
      refine ⟨_, rfl, _, _, _, _, rfl, rfl, SqL.of hb2, rfl, _, rfl, _, _, _, _, rfl, rfl, SqL.of hb2, rfl, _, _, rfl, rfl, .inl ⟨by decide, by decide⟩, _, _, rfl, rfl, _, _, rfl, rfl, _, _, rfl, rfl, ⟨by decide, by decide, ?_⟩, _, _, rfl, rfl, (by show (0 : Int) < 2147483647; decide), ?_⟩
      · show (y + 7919 * (c + 1) + 29).natAbs < 2 ^ 64
        omega
      obtain ⟨u, h1⟩ : ∃ u, u = (y + 7919 * (c + 1) + 29) ^ Int.toNat 5 % 2147483647 := ⟨_, rfl⟩
      have u0 : 0 ≤ u := h1 ▸ Int.emod_nonneg _ (by decide)
      have u1 : u < 2147483647 := h1 ▸ Int.emod_lt_of_pos _ (by decide)
      refine ⟨_, rfl, _, _, rfl, rfl, ⟨by decide, by decide⟩, _, rfl, _, _, _, _, rfl, rfl, SqL.of hb2, rfl, _, _, rfl, rfl, .inl ⟨by decide, by decide⟩, _, _, rfl, rfl, _, _, rfl, rfl, _, _, rfl, rfl, ⟨by decide, by decide, ?_⟩, _, _, rfl, rfl, (by show (0 : Int) < 2147483629; decide), ?_⟩
      · show ((y + 7919 * (c + 1) + 29) ^ Int.toNat 5 % 2147483647 / 8 + 104729 * (c + 1) + 3).natAbs < 2 ^ 64
        rw [← h1]
        omega
      refine ⟨_, rfl, _, _, rfl, rfl, ⟨by decide, by decide⟩, _, rfl, _, _, rfl, rfl, ⟨by decide, by decide⟩, _, _, rfl, rfl, .inl ⟨by decide, by decide⟩, _, _, rfl, rfl, _, rfl, _, _, rfl, rfl, hm, ?_⟩
      exact q _ _ (fun a ha => upd_ne ha) ⟨_, _, _, hb2, Int.le_refl 0, hy, hy2, by omega, by omega⟩ (Int.emod_nonneg _ (by omega)) (Int.emod_lt_of_pos _ hm)
end

end Lw
namespace Lw
open PySem PySem.Spec L2 FG
open PyProof.Rows hiding St
/-! ### frames as plain lists: hs the frames straight around, ts those that were ended to take them -/
def enc : Option Int → V
  | none => .non
  | some i => .int i
def nint (n : Nat) : V := .int (n : Int)
/-- the numbers that stand, rising -/
def stand (ts : List (Option Int)) : List Nat := (List.range ts.length).filter fun i => decide (ts[i]? = some none)
/-- the row from the ground -/
def rowW (hs : List (Option Int)) (i : Nat) : List Nat := match hs[i]? with
  | some (some j) => if j.toNat < i then rowW hs j.toNat ++ [i] else [i]
  | _ => [i]
termination_by i
/-- all that end with f, falling -/
def fin (hs ts : List (Option Int)) (f : Nat) : List Nat := (stand ts).reverse.filter fun k => decide (f ∈ rowW hs k)
/-- taken by f -/
def taken (ts : List (Option Int)) (ks : List Nat) (f : Nat) : List (Option Int) := ks.foldl (fun t k => t.set k (some (f : Int))) ts
structure Wf (hs ts : List (Option Int)) : Prop where
  len : ts.length = hs.length
  pos : 0 < hs.length
  small : hs.length ≤ 101
  root : hs[0]? = some none
  up : ∀ i, 0 < i → i < hs.length → ∃ j : Nat, hs[i]? = some (some (j : Int)) ∧ j < i
theorem wf0 : Wf [none] [none] := ⟨rfl, by decide, by decide, rfl, fun i h1 h2 => by simp at h2; omega⟩
theorem taken_len (ks : List Nat) (f : Nat) : ∀ ts, (taken ts ks f).length = ts.length := by
  induction ks with
  | nil => intro ts; rfl
  | cons k ks ih => intro ts; exact (ih _).trans (List.length_set)
theorem Wf.taken {hs ts : List (Option Int)} (w : Wf hs ts) (ks : List Nat) (f : Nat) : Wf hs (Lw.taken ts ks f) := ⟨(taken_len ks f ts).trans w.len, w.pos, w.small, w.root, w.up⟩
theorem Wf.begun {hs ts : List (Option Int)} (w : Wf hs ts) {f : Nat} (hf : f < hs.length) (h100 : hs.length ≤ 100) : Wf (hs ++ [some (f : Int)]) (ts ++ [none]) := by
  refine ⟨by simp [w.len], by simp, by simp; omega, ?_, fun i h0 h1 => ?_⟩
  · rw [List.getElem?_append_left w.pos]; exact w.root
  · by_cases h : i < hs.length
    · rw [List.getElem?_append_left h]; exact w.up i h0 h
    · have e : i = hs.length := by simp at h1; omega
      subst e
      exact ⟨f, by simp, hf⟩
theorem row_root {hs ts : List (Option Int)} (w : Wf hs ts) : rowW hs 0 = [0] := by rw [rowW, w.root]
theorem row_up {hs : List (Option Int)} {i j : Nat} (h : hs[i]? = some (some (j : Int))) (hj : j < i) : rowW hs i = rowW hs j ++ [i] := by
  rw [rowW, h]
  show (if (j : Int).toNat < i then rowW hs (j : Int).toNat ++ [i] else [i]) = _
  rw [Int.toNat_natCast, if_pos hj]
theorem row_len {hs ts : List (Option Int)} (w : Wf hs ts) : ∀ n i, i < n → i < hs.length → (rowW hs i).length ≤ i + 1 := by
  intro n
  induction n with
  | zero => intro i h; omega
  | succ n ih =>
    intro i h hi
    by_cases h0 : i = 0
    · subst h0; rw [row_root w]; simp
    · obtain ⟨j, e, hj⟩ := w.up i (by omega) hi
      rw [row_up e hj, List.length_append]
      have := ih j (by omega) (by omega)
      simp; omega
theorem row_lt {hs ts : List (Option Int)} (w : Wf hs ts) : ∀ n i, i < n → i < hs.length → ∀ k ∈ rowW hs i, k ≤ i := by
  intro n
  induction n with
  | zero => intro i h; omega
  | succ n ih =>
    intro i h hi k hk
    by_cases h0 : i = 0
    · subst h0; rw [row_root w] at hk; simp at hk; omega
    · obtain ⟨j, e, hj⟩ := w.up i (by omega) hi
      rw [row_up e hj] at hk
      rcases List.mem_append.mp hk with hk | hk
      · have := ih j (by omega) (by omega) k hk; omega
      · simp at hk; omega
theorem mem_stand {ts : List (Option Int)} {i : Nat} : i ∈ stand ts ↔ ts[i]? = some none := by
  unfold stand
  rw [List.mem_filter, List.mem_range]
  constructor
  · rintro ⟨_, h⟩; exact of_decide_eq_true h
  · intro h
    exact ⟨(List.getElem?_eq_some_iff.mp h).1, decide_eq_true h⟩
theorem stand_len (ts : List (Option Int)) : (stand ts).length ≤ ts.length := by
  unfold stand
  exact Nat.le_trans (List.length_filter_le _ _) (by simp)
theorem fin_stand {hs ts : List (Option Int)} {f k : Nat} (h : k ∈ fin hs ts f) : ts[k]? = some none := by
  unfold fin at h
  rw [List.mem_filter, List.mem_reverse] at h
  exact mem_stand.mp h.1
theorem fin_len (hs ts : List (Option Int)) (f : Nat) : (fin hs ts f).length ≤ ts.length := by
  unfold fin
  refine Nat.le_trans (List.length_filter_le _ _) ?_
  rw [List.length_reverse]; exact stand_len ts
theorem filter_more {α : Type} (p : α → Bool) {xs : List α} {i : Nat} {x : α} (h : xs[i]? = some x) : (xs.take (i + 1)).filter p = (xs.take i).filter p ++ (if p x = true then [x] else []) := by
  obtain ⟨hi, e⟩ := List.getElem?_eq_some_iff.mp h
  rw [List.take_succ_eq_append_getElem hi, List.filter_append, e]
  congr 1
  by_cases hp : p x = true
  · simp [hp]
  · simp [hp]
theorem sel_yes {α : Type} (f : α → V) (p : α → Bool) {xs : List α} {i : Nat} {x : α} (h : xs[i]? = some x) (hp : p x = true) : ((xs.take (i + 1)).filter p).map f = ((xs.take i).filter p).map f ++ [f x] := by
  rw [filter_more p h, hp]; simp
theorem sel_no {α : Type} (f : α → V) (p : α → Bool) {xs : List α} {i : Nat} {x : α} (h : xs[i]? = some x) (hp : p x = false) : ((xs.take (i + 1)).filter p).map f = ((xs.take i).filter p).map f := by
  rw [filter_more p h, hp]; simp
theorem foldl_more {α β : Type} (g : β → α → β) {xs : List α} {i : Nat} {x : α} {b : β} (h : xs[i]? = some x) : (xs.take (i + 1)).foldl g b = g ((xs.take i).foldl g b) x := by
  obtain ⟨hi, e⟩ := List.getElem?_eq_some_iff.mp h
  rw [List.take_succ_eq_append_getElem hi, List.foldl_append, e]; rfl
theorem inV_nint (f : Nat) (xs : List Nat) : inV (.int (f : Int)) (xs.map nint) = decide (f ∈ xs) := by
  unfold inV
  rw [Bool.eq_iff_iff, List.any_eq_true, decide_eq_true_eq]
  constructor
  · rintro ⟨y, hy, e⟩
    obtain ⟨n, hn, rfl⟩ := List.mem_map.mp hy
    have e2 : ((n : Int) == (f : Int)) = true := e
    have : n = f := by have := eq_of_beq e2; omega
    subst this; exact hn
  · intro h
    exact ⟨nint f, List.mem_map.mpr ⟨f, h, rfl⟩, by show ((f : Int) == (f : Int)) = true; simp⟩
theorem flat_nint (xs : List Nat) : (xs.map nint).all flatV = true := by
  rw [List.all_eq_true]; rintro y hy; obtain ⟨n, _, rfl⟩ := List.mem_map.mp hy; rfl
theorem dp_enc (K : PySem.W.Frag) (H : Hp) : ∀ xs : List (Option Int), DpAll K H (xs.map enc) (xs.map fun o => match o with | none => PyData.none | some i => PyData.int i)
  | [] => .nil
  | none :: xs => .cons .non (dp_enc K H xs)
  | some i :: xs => .cons (.int i) (dp_enc K H xs)
theorem dp_nint (K : PySem.W.Frag) (H : Hp) : ∀ xs : List Nat, DpAll K H (xs.map nint) (xs.map fun n : Nat => PyData.int (n : Int))
  | [] => .nil
  | n :: xs => .cons (.int (n : Int)) (dp_nint K H xs)
/-- all but the objects of S is as it was -/
def Kp (S : List Addr) (H H' : Hp) : Prop := ∀ b o, H b = some o → b ∉ S → H' b = some o
theorem Kp.refl {S : List Addr} {H : Hp} : Kp S H H := fun _ _ e _ => e
theorem Kp.trans {S : List Addr} {H H1 H2 : Hp} (a : Kp S H H1) (b : Kp S H1 H2) : Kp S H H2 := fun c o e h => b c o (a c o e h) h
theorem Kp.at {S : List Addr} {H H' : Hp} (k : Kp S H H') {b : Addr} {o : HO} (e : H b = some o) (h : b ∉ S) : H' b = some o := k b o e h
theorem Kp.free {H H' : Hp} (k : Kp [] H H') {b : Addr} (e : H' b = none) : H b = none := by
  cases q : H b with
  | none => rfl
  | some o => rw [k b o q (by simp)] at e; cases e

end Lw
namespace Lw
open PySem PySem.Spec L2 FG
open PyProof.Rows hiding St
/-! ### Frames, where nothing is refused -/
def frMeths : List Str := ["need_begun", "need_standing", "need_more", "begin", "finish", "clear", "stands", "inside", "row", "within", "ended_by", "standing", "begun"]
structure FrF (fs : List (Str × V)) (h t : Addr) : Prop where
  hh : fs.lookup ("holders" : Str) = some (.ref h)
  tt : fs.lookup ("takers" : Str) = some (.ref t)
  no : ∀ m ∈ frMeths, fs.lookup m = none
/-- at p an instance of the class at C, which is under Frames: its lists stand at h and t -/
structure FrAt (C : Addr) (H : Hp) (p h t : Addr) (hs ts : List (Option Int)) : Prop where
  ob : ∃ dx fs, H p = some (.ins C dx fs) ∧ FrF fs h t
  lh : H h = some (.lst (hs.map enc))
  lt : H t = some (.lst (ts.map enc))
  ne : h ≠ t
  wf : Wf hs ts
theorem FrAt.kp {S : List Addr} {C : Addr} {H H' : Hp} {p h t : Addr} {hs ts : List (Option Int)} (f : FrAt C H p h t hs ts) (k : Kp S H H') (h1 : p ∉ S) (h2 : h ∉ S) (h3 : t ∉ S) : FrAt C H' p h t hs ts := by
  obtain ⟨dx, fs, e, ff⟩ := f.ob
  exact ⟨⟨dx, fs, k _ _ e h1, ff⟩, k _ _ f.lh h2, k _ _ f.lt h3, f.ne, f.wf⟩
theorem FrAt.kp0 {C : Addr} {H H' : Hp} {p h t : Addr} {hs ts : List (Option Int)} (f : FrAt C H p h t hs ts) (k : Kp [] H H') : FrAt C H' p h t hs ts := f.kp k (by simp) (by simp) (by simp)
theorem FrAt.ph {C : Addr} {H : Hp} {p h t : Addr} {hs ts : List (Option Int)} (f : FrAt C H p h t hs ts) : p ≠ h ∧ p ≠ t := by
  obtain ⟨dx, fs, e, ff⟩ := f.ob
  exact ⟨ne_of e f.lh (by intro q; cases q), ne_of e f.lt (by intro q; cases q)⟩
abbrev CF (K : PySem.W.Frag) : Addr := He.ga K "Frames"
/-- where a valid number is handed in -/
def spBeg (C : Addr) : Sp := fun vs H Q _ => ∃ p h t hs ts, ∃ n : Nat, vs = [.ref p, nint n] ∧ FrAt C H p h t hs ts ∧ n < hs.length ∧ Q .non H
def spStd (C : Addr) : Sp := fun vs H Q _ => ∃ p h t hs ts, ∃ n : Nat, vs = [.ref p, nint n] ∧ FrAt C H p h t hs ts ∧ ts[n]? = some none ∧ Q .non H
def spMore (C : Addr) : Sp := fun vs H Q _ => ∃ p h t hs ts, vs = [.ref p] ∧ FrAt C H p h t hs ts ∧ hs.length ≤ 100 ∧ Q .non H
def spBegin (C : Addr) : Sp := fun vs H Q _ => ∃ p h t hs ts, ∃ n : Nat, vs = [.ref p, nint n] ∧ FrAt C H p h t hs ts ∧ ts[n]? = some none ∧ hs.length ≤ 100 ∧
  ∀ H', Kp [h, t] H H' → FrAt C H' p h t (hs ++ [some (n : Int)]) (ts ++ [none]) → Q (nint hs.length) H'
def spFin (C : Addr) : Sp := fun vs H Q _ => ∃ p h t hs ts, ∃ n : Nat, vs = [.ref p, nint n] ∧ FrAt C H p h t hs ts ∧ ts[n]? = some none ∧ 0 < n ∧
  ∀ l H', H l = none → Kp [t] H H' → FrAt C H' p h t hs (taken ts (fin hs ts n) n) → H' l = some (.lst ((fin hs ts n).map nint)) → Q (.ref l) H'
def spClear : Sp := fun vs H Q _ => ∃ p f, vs = [p, f] ∧ Q .non H
def spStands (C : Addr) : Sp := fun vs H Q _ => ∃ p h t hs ts, ∃ z : Int, vs = [.ref p, .int z] ∧ FrAt C H p h t hs ts ∧ Q (.bl (decide (0 ≤ z ∧ ts[z.toNat]? = some none))) H
def spRow (C : Addr) : Sp := fun vs H Q _ => ∃ p h t hs ts, ∃ n : Nat, vs = [.ref p, nint n] ∧ FrAt C H p h t hs ts ∧ n < hs.length ∧
  ∀ l H', H l = none → Kp [] H H' → H' l = some (.lst ((rowW hs n).map nint)) → Q (.ref l) H'
def spBy (C : Addr) : Sp := fun vs H Q _ => ∃ p h t hs ts, ∃ (n : Nat) (o : Option Int), vs = [.ref p, nint n] ∧ FrAt C H p h t hs ts ∧ ts[n]? = some o ∧ Q (enc o) H
def spStanding (C : Addr) : Sp := fun vs H Q _ => ∃ p h t hs ts, vs = [.ref p] ∧ FrAt C H p h t hs ts ∧ ∀ l H', H l = none → Kp [] H H' → H' l = some (.lst ((stand ts).map nint)) → Q (.ref l) H'
def spBegun (C : Addr) : Sp := fun vs H Q _ => ∃ p h t hs ts, vs = [.ref p] ∧ FrAt C H p h t hs ts ∧ Q (.int ((hs.length : Int) - 1)) H
/-- of any int: is_number; between: is_whole -/
def spNum : Sp := fun vs H Q _ => ∃ z : Int, vs = [.int z] ∧ Q (.bl true) H
def spWhole : Sp := fun vs H Q _ => ∃ z a b : Int, vs = [.int z, .int a, .int b] ∧ Q (.bl (decide (a ≤ z ∧ z ≤ b))) H
def spFInit (C : Addr) : Sp := fun vs H Q _ => ∃ p dx, vs = [.ref p] ∧ H p = some (.ins C dx []) ∧ ∀ h t H', H h = none → H t = none → h ≠ p → t ≠ p → Kp [p] H H' → FrAt C H' p h t [none] [none] → Q .non H'

theorem frF0 (h t : Addr) : FrF (putF "takers" (.ref t) (putF "holders" (.ref h) [])) h t := by
  have n1 : ¬ (("holders" : Str) = "takers") := by decide +kernel
  refine ⟨by rw [lookup_putF, if_neg n1, lookup_putF, if_pos rfl], by rw [lookup_putF, if_pos rfl], fun m hm => ?_⟩
  have z : (frMeths.all fun m => decide (¬ m = ("takers" : Str) ∧ ¬ m = ("holders" : Str))) = true := by decide +kernel
  have z2 := of_decide_eq_true (List.all_eq_true.mp z m hm)
  rw [lookup_putF, if_neg z2.1, lookup_putF, if_neg z2.2]; rfl
theorem get_enc {xs : List (Option Int)} {n : Nat} {o : Option Int} (h : xs[n]? = some o) : atI (xs.map enc) (n : Int) = some (enc o) := atI_nat (by rw [List.getElem?_map, h]; rfl)
section
variable {P : Program} {w : World} {K : PySem.W.Frag} {mg : Str → Option Value} {base : Heap}
theorem ok_number (T : Tx K mg) {fd : FuncData} (F : Fun K "is_number" "is_number" s_is_number (He.ga K "is_number") fd) : FnG P w K mg base 1 (He.ga K "is_number") fd ["thing"] spNum := by
  refine FnG.of F sc_is_number (fun vs H Q E h => ?_) (fun cdv A outer s H vs Q E hr h => ?_)
  · obtain ⟨z, rfl, _⟩ := h; rfl
  · obtain ⟨z, rfl, q⟩ := h
    refine ⟨_, pss_one (ps_ret (pe_and (pe_callB (kisi K) (by rfl) T.z_isinstance (by decide +kernel) (pa_cons (pv 0) (pa_cons (pe_bltn (v := .ty "int") (by rfl) T.z_int (by decide +kernel) rfl) (pa_nil)))) (pe_one (pe_not (pe_callB (kisi K) (by rfl) T.z_isinstance (by decide +kernel) (pa_cons (pv 0) (pa_cons (pe_bltn (v := .ty "bool") (by rfl) T.z_bool (by decide +kernel) rfl) (pa_nil)))))))), ?_⟩
    refine ⟨_, rfl, _, _, _, _, true, rfl, .ty _, .base (.int z), kit_ty (by decide +kernel), true, rfl, iteT ⟨_, rfl, _, _, _, _, false, rfl, .ty _, .base (.int z), kit_ty (by decide +kernel), false, rfl, q⟩⟩
theorem ok_whole (T : Tx K mg) {fd : FuncData} (F : Fun K "is_whole" "is_whole" s_is_whole (He.ga K "is_whole") fd) (c_is_number : Cal P w K mg base 1 "is_number" spNum) : FnG P w K mg base 2 (He.ga K "is_whole") fd ["thing", "low", "high"] spWhole := by
  refine FnG.of F sc_is_whole (fun vs H Q E h => ?_) (fun cdv A outer s H vs Q E hr h => ?_)
  · obtain ⟨z, a, b, rfl, _⟩ := h; rfl
  · obtain ⟨z, a, b, rfl, q⟩ := h
    refine ⟨_, pss_one (ps_ret (pe_and (gc c_is_number (hr.mono (by decide)) takes0 (pa_cons (pv 0) (pa_nil))) (pe_one (pe_chain op_le op_le (pv 1) (pv 0) (pv 2))))), ?_⟩
    refine ⟨_, rfl, z, rfl, true, rfl, iteT ⟨_, rfl, _, rfl, _, _, rfl, rfl, _, rfl, ?_⟩⟩
    by_cases h1 : a ≤ z
    · rw [decide_eq_true h1]
      refine iteT ⟨_, rfl, _, _, rfl, rfl, ?_⟩
      have e : decide (a ≤ z ∧ z ≤ b) = decide (z ≤ b) := by simp [h1]
      rw [e] at q; exact q
    · rw [decide_eq_false h1]
      refine iteF ?_
      have e : decide (a ≤ z ∧ z ≤ b) = false := by simp [h1]
      rw [e] at q; exact q
theorem ok_finit (T : Tx K mg) {fd : FuncData} {f : Addr} (F : Fun K "__init__" "Frames.__init__" s_Frames___init__ f fd) : FnG P w K mg base 1 f fd ["self"] (spFInit (CF K)) := by
  refine FnG.of F sc_Frames___init__ (fun vs H Q E h => ?_) (fun cdv A outer s H vs Q E hr h => ?_)
  · obtain ⟨p, dx, rfl, _⟩ := h; rfl
  · obtain ⟨p, dx, rfl, hp, q⟩ := h
    refine ⟨_, pss_cons (ksFld K (pv 0) (pe_lst (pa_cons (pe_non) (pa_nil))))
      (pss_one (ksFld K (pv 0) (pe_lst (pa_cons (pe_non) (pa_nil))))), ?_⟩
    refine ⟨by decide, fun h hh => ?_⟩
    have n1 : p ≠ h := ne_of_none hp hh
    refine ⟨_, rfl, p, CF K, dx, [], rfl, (by rw [upd_ne n1]; exact hp), T.c_Frames, T.n_Frames_holders, (by show 0 < 1000; decide), by decide, fun t ht => ?_⟩
    have n2 : t ≠ p := fun z => by rw [z, upd_same] at ht; cases ht
    have n3 : t ≠ h := fun z => by rw [z, upd_ne n1.symm, upd_same] at ht; cases ht
    have ht0 : H t = none := by rw [upd_ne n2, upd_ne n3] at ht; exact ht
    refine ⟨_, rfl, p, CF K, dx, _, rfl, (by rw [upd_ne n2.symm, upd_same]), T.c_Frames, T.n_Frames_takers, (by show 1 < 1000; decide), ?_⟩
    refine q h t _ hh ht0 n1.symm n2 (fun b o e hb => ?_) ⟨⟨dx, _, upd_same, frF0 h t⟩, ?_, ?_, n3.symm, wf0⟩
    · have hb2 : b ≠ p := by simpa using hb
      rw [upd_ne hb2, upd_ne (ne_of_none e ht0), upd_ne hb2, upd_ne (ne_of_none e hh)]; exact e
    · rw [upd_ne n1.symm, upd_ne n3.symm, upd_ne n1.symm, upd_same]; rfl
    · rw [upd_ne n2, upd_same]; rfl
end

end Lw
namespace Lw
open PySem PySem.Spec L2 FG
open PyProof.Rows hiding St
/-! ### its methods -/
theorem rt_of {Q : VK} {a b : V} {H : Hp} (e : a = b) (q : Q b H) : Q a H := e ▸ q
section
variable {P : Program} {w : World} {K : PySem.W.Frag} {mg : Str → Option Value} {base : Heap}
theorem ok_begun_ (T : Tx K mg) {fd : FuncData} {f : Addr} (F : Fun K "need_begun" "Frames.need_begun" s_Frames_need_begun f fd) (c_is_whole : Cal P w K mg base 2 "is_whole" spWhole) : FnG P w K mg base 3 f fd ["self", "frame"] (spBeg (CF K)) := by
  refine FnG.of F sc_Frames_need_begun (fun vs H Q E h => ?_) (fun cdv A outer s H vs Q E hr h => ?_)
  · obtain ⟨p, h, t, hs, ts, n, rfl, _⟩ := h; rfl
  · obtain ⟨p, h, t, hs, ts, n, rfl, ⟨⟨dx, fs, e, ff⟩, lh, lt, ne, wf⟩, hn, q⟩ := h
    refine ⟨_, pss_one (ps_if (pt_not (pt_val (gc c_is_whole (hr.mono (by decide)) takes0 (pa_cons (pv 1) (pa_cons (pe_int) (pa_cons (pe_op op_sub (pe_callB (klen K) (by rfl) T.z_len PySem.boot_len (pa_cons (kfld K (pv 0)) (pa_nil))) (pe_int)) (pa_nil))))))) (pss_one (ps_never)) (pss_nil)), ?_⟩
    refine ⟨_, rfl, _, rfl, p, CF K, dx, fs, _, rfl, e, T.c_Frames, T.n_Frames_holders, ff.hh, h, _, rfl, .inl (SqL.of lh), _, _, rfl, rfl, n, 0, _, rfl, _, rfl, ?_⟩
    have z : decide ((0 : Int) ≤ n ∧ (n : Int) ≤ ((hs.map enc).length : Int) - 1) = true := by
      rw [List.length_map]; exact decide_eq_true ⟨by omega, by omega⟩
    rw [z]
    exact iteF q
theorem ok_std (T : Tx K mg) {fd : FuncData} {f : Addr} (F : Fun K "need_standing" "Frames.need_standing" s_Frames_need_standing f fd) (m_need_begun : Met P w K mg base 3 (CF K) "need_begun" (spBeg (CF K))) : FnG P w K mg base 4 f fd ["self", "frame"] (spStd (CF K)) := by
  refine FnG.of F sc_Frames_need_standing (fun vs H Q E h => ?_) (fun cdv A outer s H vs Q E hr h => ?_)
  · obtain ⟨p, h, t, hs, ts, n, rfl, _⟩ := h; rfl
  · obtain ⟨p, h, t, hs, ts, n, rfl, fr, hn, q⟩ := h
    obtain ⟨⟨dx, fs, e, ff⟩, lh, lt, ne, wf⟩ := id fr
    have hl := (List.getElem?_eq_some_iff.mp hn).1
    refine ⟨_, pss_cons (ps_expr (gm m_need_begun (hr.mono (by decide)) takes0 (pv 0) (pa_cons (pv 1) (pa_nil))))
      (pss_one (ps_if (pt_cmpR op_notN (pe_ix (kixL K) (kfld K (pv 0)) (pv 1) (fun _ _ => rfl)) (pe_non) (by first | exact nomark _ | rfl)) (pss_one (ps_never)) (pss_nil))), ?_⟩
    refine ⟨_, rfl, p, dx, fs, rfl, e, ff.no _ (by decide +kernel), _, rfl, p, h, t, hs, ts, n, rfl, fr, wf.len ▸ hl, ?_⟩
    refine ⟨_, rfl, p, CF K, dx, fs, _, rfl, e, T.c_Frames, T.n_Frames_takers, ff.tt, _, rfl, t, _, _, _, rfl, rfl, SqL.of lt, get_enc hn, rfl, _, rfl, iteF q⟩
theorem ok_more (T : Tx K mg) {fd : FuncData} {f : Addr} (F : Fun K "need_more" "Frames.need_more" s_Frames_need_more f fd) : FnG P w K mg base 1 f fd ["self"] (spMore (CF K)) := by
  obtain ⟨tM, hg_MOST⟩ := T.i_MOST
  refine FnG.of F sc_Frames_need_more (fun vs H Q E h => ?_) (fun cdv A outer s H vs Q E hr h => ?_)
  · obtain ⟨p, h, t, hs, ts, rfl, _⟩ := h; rfl
  · obtain ⟨p, h, t, hs, ts, rfl, ⟨⟨dx, fs, e, ff⟩, lh, lt, ne, wf⟩, hn, q⟩ := h
    refine ⟨_, pss_one (ps_if (pt_cmpR op_gt (pe_callB (klen K) (by rfl) T.z_len PySem.boot_len (pa_cons (kfld K (pv 0)) (pa_nil))) (pe_glob (v := .int 100) rfl hg_MOST ⟨_, rfl⟩) (by first | exact nomark _ | rfl)) (pss_one (ps_never)) (pss_nil)), ?_⟩
    refine ⟨_, rfl, p, CF K, dx, fs, _, rfl, e, T.c_Frames, T.n_Frames_holders, ff.hh, h, _, rfl, .inl (SqL.of lh), _, 100, rfl, rfl, _, rfl, ?_⟩
    have z : decide ((100 : Int) < ((hs.map enc).length : Int)) = false := by
      rw [List.length_map]; exact decide_eq_false (by omega)
    show if decide ((100 : Int) < ((hs.map enc).length : Int)) = true then _ else _
    rw [z]
    exact iteF q
theorem ok_clear (T : Tx K mg) {fd : FuncData} {f : Addr} (F : Fun K "clear" "Frames.clear" s_Frames_clear f fd) : FnG P w K mg base 1 f fd ["self", "frame"] spClear := by
  refine FnG.of F sc_Frames_clear (fun vs H Q E h => ?_) (fun cdv A outer s H vs Q E hr h => ?_)
  · obtain ⟨p, f, rfl, _⟩ := h; rfl
  · obtain ⟨p, f, rfl, q⟩ := h
    exact ⟨_, pss_one (ps_ret (pe_non)), q⟩
theorem ok_nbegun (T : Tx K mg) {fd : FuncData} {f : Addr} (F : Fun K "begun" "Frames.begun" s_Frames_begun f fd) : FnG P w K mg base 1 f fd ["self"] (spBegun (CF K)) := by
  refine FnG.of F sc_Frames_begun (fun vs H Q E h => ?_) (fun cdv A outer s H vs Q E hr h => ?_)
  · obtain ⟨p, h, t, hs, ts, rfl, _⟩ := h; rfl
  · obtain ⟨p, h, t, hs, ts, rfl, ⟨⟨dx, fs, e, ff⟩, lh, lt, ne, wf⟩, q⟩ := h
    refine ⟨_, pss_one (ps_ret (pe_op op_sub (pe_callB (klen K) (by rfl) T.z_len PySem.boot_len (pa_cons (kfld K (pv 0)) (pa_nil))) (pe_int))), ?_⟩
    refine ⟨_, rfl, p, CF K, dx, fs, _, rfl, e, T.c_Frames, T.n_Frames_holders, ff.hh, h, _, rfl, .inl (SqL.of lh), _, _, rfl, rfl, ?_⟩
    exact rt_of (b := .int ((hs.length : Int) - 1)) (by rw [List.length_map]) q
theorem ok_by (T : Tx K mg) {fd : FuncData} {f : Addr} (F : Fun K "ended_by" "Frames.ended_by" s_Frames_ended_by f fd) (m_need_begun : Met P w K mg base 3 (CF K) "need_begun" (spBeg (CF K))) : FnG P w K mg base 4 f fd ["self", "frame"] (spBy (CF K)) := by
  refine FnG.of F sc_Frames_ended_by (fun vs H Q E h => ?_) (fun cdv A outer s H vs Q E hr h => ?_)
  · obtain ⟨p, h, t, hs, ts, n, o, rfl, _⟩ := h; rfl
  · obtain ⟨p, h, t, hs, ts, n, o, rfl, fr, hn, q⟩ := h
    obtain ⟨⟨dx, fs, e, ff⟩, lh, lt, ne, wf⟩ := id fr
    have hl := (List.getElem?_eq_some_iff.mp hn).1
    refine ⟨_, pss_cons (ps_expr (gm m_need_begun (hr.mono (by decide)) takes0 (pv 0) (pa_cons (pv 1) (pa_nil))))
      (pss_one (ps_ret (pe_ix (kixL K) (kfld K (pv 0)) (pv 1) (fun _ _ => rfl)))), ?_⟩
    refine ⟨_, rfl, p, dx, fs, rfl, e, ff.no _ (by decide +kernel), _, rfl, p, h, t, hs, ts, n, rfl, fr, wf.len ▸ hl, ?_⟩
    exact ⟨_, rfl, p, CF K, dx, fs, _, rfl, e, T.c_Frames, T.n_Frames_takers, ff.tt, _, rfl, t, _, _, _, rfl, rfl, SqL.of lt, get_enc hn, q⟩
theorem ok_stands (T : Tx K mg) {fd : FuncData} {f : Addr} (F : Fun K "stands" "Frames.stands" s_Frames_stands f fd) (c_is_whole : Cal P w K mg base 2 "is_whole" spWhole) : FnG P w K mg base 3 f fd ["self", "thing"] (spStands (CF K)) := by
  refine FnG.of F sc_Frames_stands (fun vs H Q E h => ?_) (fun cdv A outer s H vs Q E hr h => ?_)
  · obtain ⟨p, h, t, hs, ts, z, rfl, _⟩ := h; rfl
  · obtain ⟨p, h, t, hs, ts, z, rfl, ⟨⟨dx, fs, e, ff⟩, lh, lt, ne, wf⟩, q⟩ := h
    refine ⟨_, pss_one (ps_ret (pe_and (gc c_is_whole (hr.mono (by decide)) takes0 (pa_cons (pv 1) (pa_cons (pe_int) (pa_cons (pe_op op_sub (pe_callB (klen K) (by rfl) T.z_len PySem.boot_len (pa_cons (kfld K (pv 0)) (pa_nil))) (pe_int)) (pa_nil))))) (pe_one (pe_cmpR op_isN (pe_ix (kixL K) (kfld K (pv 0)) (pv 1) (fun _ _ => rfl)) (pe_non) (by first | exact nomark _ | rfl))))), ?_⟩
    refine ⟨_, rfl, _, rfl, p, CF K, dx, fs, _, rfl, e, T.c_Frames, T.n_Frames_holders, ff.hh, h, _, rfl, .inl (SqL.of lh), _, _, rfl, rfl, z, 0, _, rfl, _, rfl, ?_⟩
    have wl := wf.len
    by_cases hz : 0 ≤ z ∧ z ≤ (hs.length : Int) - 1
    · have z1 : decide ((0 : Int) ≤ z ∧ z ≤ ((hs.map enc).length : Int) - 1) = true := by rw [List.length_map]; exact decide_eq_true hz
      rw [z1]
      obtain ⟨n, rfl⟩ : ∃ n : Nat, z = (n : Int) := ⟨z.toNat, by omega⟩
      have hl : n < ts.length := by omega
      refine iteT ⟨_, rfl, p, CF K, dx, fs, _, rfl, e, T.c_Frames, T.n_Frames_takers, ff.tt, _, rfl, t, _, _, _, rfl, rfl, SqL.of lt, get_enc (List.getElem?_eq_getElem hl), rfl, ?_⟩
      have e2 : decide (enc ts[n] = V.non) = decide ((0 : Int) ≤ n ∧ ts[(n : Int).toNat]? = some none) := by
        rw [Int.toNat_natCast, List.getElem?_eq_getElem hl]
        cases ts[n] with
        | none => simp [enc]
        | some i => simp [enc]
      show Q (.bl (decide (enc ts[n] = V.non))) H
      rw [e2]; exact q
    · have z1 : decide ((0 : Int) ≤ z ∧ z ≤ ((hs.map enc).length : Int) - 1) = false := by rw [List.length_map]; exact decide_eq_false hz
      rw [z1]
      refine iteF ?_
      have e2 : decide ((0 : Int) ≤ z ∧ ts[z.toNat]? = some none) = false := by
        refine decide_eq_false fun ⟨a, b⟩ => hz ⟨a, ?_⟩
        have := (List.getElem?_eq_some_iff.mp b).1
        omega
      rw [e2] at q; exact q
theorem ok_begin (T : Tx K mg) {fd : FuncData} {f : Addr} (F : Fun K "begin" "Frames.begin" s_Frames_begin f fd) (m_need_standing : Met P w K mg base 4 (CF K) "need_standing" (spStd (CF K))) (m_need_more : Met P w K mg base 1 (CF K) "need_more" (spMore (CF K))) :
    FnG P w K mg base 5 f fd ["self", "frame"] (spBegin (CF K)) := by
  refine FnG.of F sc_Frames_begin (fun vs H Q E h => ?_) (fun cdv A outer s H vs Q E hr h => ?_)
  · obtain ⟨p, h, t, hs, ts, n, rfl, _⟩ := h; rfl
  · obtain ⟨p, h, t, hs, ts, n, rfl, fr, hn, h100, q⟩ := h
    obtain ⟨⟨dx, fs, e, ff⟩, lh, lt, ne, wf⟩ := id fr
    have hl := (List.getElem?_eq_some_iff.mp hn).1
    have wl := wf.len
    obtain ⟨ph, pt⟩ := fr.ph
    refine ⟨_, pss_cons (ps_expr (gm m_need_standing (hr.mono (by decide)) takes0 (pv 0) (pa_cons (pv 1) (pa_nil))))
      (pss_cons (ps_expr (gm0 m_need_more (hr.mono (by decide)) takes0 (pv 0)))
      (pss_cons (ps_expr (kbm K PySem.F.plainAttrs_list PySem.F.slot_list_append PySem.F.type_list_append mt_append (kfld K (pv 0)) (pa_cons (pv 1) (pa_nil))))
      (pss_cons (ps_expr (kbm K PySem.F.plainAttrs_list PySem.F.slot_list_append PySem.F.type_list_append mt_append (kfld K (pv 0)) (pa_cons (pe_non) (pa_nil))))
      (pss_one (ps_ret (pe_op op_sub (pe_callB (klen K) (by rfl) T.z_len PySem.boot_len (pa_cons (kfld K (pv 0)) (pa_nil))) (pe_int))))))), ?_⟩
    refine ⟨_, rfl, p, dx, fs, rfl, e, ff.no _ (by decide +kernel), _, rfl, p, h, t, hs, ts, n, rfl, fr, hn, ?_⟩
    refine ⟨_, rfl, p, dx, fs, rfl, e, ff.no _ (by decide +kernel), p, h, t, hs, ts, rfl, fr, h100, ?_⟩
    refine ⟨_, rfl, p, CF K, dx, fs, _, rfl, e, T.c_Frames, T.n_Frames_holders, ff.hh, .inl ⟨rfl, _, SqL.of lh⟩, _, rfl, h, _, _, rfl, rfl, lh, (by rw [List.length_map]; exact small1000 (by omega)), ?_⟩
    have e1 : upd H h (.lst (hs.map enc ++ [nint n])) p = some (.ins (CF K) dx fs) := (upd_ne ph).trans e
    have l1 : upd H h (.lst (hs.map enc ++ [nint n])) t = some (.lst (ts.map enc)) := (upd_ne ne.symm).trans lt
    refine ⟨_, rfl, p, CF K, dx, fs, _, rfl, e1, T.c_Frames, T.n_Frames_takers, ff.tt, .inl ⟨rfl, _, SqL.of l1⟩, t, _, _, rfl, rfl, l1, (by rw [List.length_map]; exact small1000 (by omega)), ?_⟩
    have e2 : upd (upd H h (.lst (hs.map enc ++ [nint n]))) t (.lst (ts.map enc ++ [V.non])) p = some (.ins (CF K) dx fs) := (upd_ne pt).trans e1
    have l2 : upd (upd H h (.lst (hs.map enc ++ [nint n]))) t (.lst (ts.map enc ++ [V.non])) h = some (.lst (hs.map enc ++ [nint n])) := (upd_ne ne).trans upd_same
    refine ⟨_, rfl, p, CF K, dx, fs, _, rfl, e2, T.c_Frames, T.n_Frames_holders, ff.hh, h, _, rfl, .inl (SqL.of l2), _, _, rfl, rfl, ?_⟩
    have z : (((hs.map enc ++ [nint n]).length : Nat) : Int) - 1 = (hs.length : Int) := by simp
    refine rt_of (b := nint hs.length) (congrArg V.int z) ?_
    refine q _ (fun b o eb hb => ?_) ⟨⟨dx, fs, e2, ff⟩, ?_, ?_, ne, wf.begun (by omega) h100⟩
    · simp at hb
      rw [upd_ne hb.2, upd_ne hb.1]; exact eb
    · rw [l2, List.map_append]; rfl
    · rw [upd_same, List.map_append]; rfl
theorem ok_standing (T : Tx K mg) {fd : FuncData} {f : Addr} (F : Fun K "standing" "Frames.standing" s_Frames_standing f fd) : FnG P w K mg base 1 f fd ["self"] (spStanding (CF K)) := by
  refine FnG.of F sc_Frames_standing (fun vs H Q E h => ?_) (fun cdv A outer s H vs Q E hr h => ?_)
  · obtain ⟨p, h, t, hs, ts, rfl, _⟩ := h; rfl
  · obtain ⟨p, h, t, hs, ts, rfl, ⟨⟨dx, fs, e, ff⟩, lh, lt, ne, wf⟩, q⟩ := h
    have wl := wf.len
    have ws := wf.small
    refine ⟨_, pss_one (ps_ret (pe_lc (own := [("one", 1)]) (g := gName 1) rfl sc_Frames_standing.nd (pi_range1 rfl T.z_range (pa_cons (pe_callB (klen K) (by rfl) T.z_len PySem.boot_len (pa_cons (kfld K (pv 0)) (pa_nil))) (pa_nil))) (blkOk_by (own := [("one", 1)]) (N := ["self", "one"]) (sc := defScope s_Frames_standing) (by decide +kernel)) (fun _ _ _ _ _ => pg_name (i := 1) sc_Frames_standing.nd rfl (by first | exact Or.inl rfl | exact Or.inr rfl)) (fun _ _ _ _ _ => by exact pts_one (pt_cmpR op_isN (pe_ix (kixL K) (kfld K (pv 0)) (pv 1) (fun _ _ => rfl)) (pe_non) (by first | exact nomark _ | rfl))) (fun _ _ _ _ _ => by exact pv 1))), ?_⟩
    refine ⟨_, rfl, p, CF K, dx, fs, _, rfl, e, T.c_Frames, T.n_Frames_takers, ff.tt, t, _, rfl, .inl (SqL.of lt), _, rfl, (by rw [List.length_map]; omega), (by rw [List.length_map]; omega), fun D hD => ?_⟩
    refine lc_range (lo := 0) (n := _) (fun i H' => Kp [] H H' ∧ H' D = some (.lst (((List.range ts.length).take i |>.filter fun j => decide (ts[j]? = some none)).map nint)))
      ⟨fun b o eb _ => (upd_ne (ne_of_none eb hD)).trans eb, upd_same⟩ ?_ ?_
    · rintro i H' hi ⟨kp, hD'⟩
      have hi2 : i < ts.length := by simpa using hi
      refine ⟨rfl, _, rfl, p, CF K, dx, fs, _, rfl, kp _ _ e (by simp), T.c_Frames, T.n_Frames_takers, ff.tt, _, rfl, t, _, _, enc ts[i], rfl, rfl, SqL.of (kp _ _ lt (by simp)), ?_, rfl, _, rfl, ?_⟩
      · rw [Int.zero_add]; exact get_enc (List.getElem?_eq_getElem hi2)
      · have hr2 : (List.range ts.length)[i]? = some i := by simp [hi2]
        have hx : decide (ts[i]? = some none) = decide (enc ts[i] = V.non) := by
          rw [List.getElem?_eq_getElem hi2]
          cases ts[i] <;> simp [enc]
        by_cases hc : enc ts[i] = V.non
        · rw [decide_eq_true hc] at hx ⊢
          refine iteT ⟨_, rfl, _, hD', ?_, fun b o eb hb => ?_, ?_⟩
          · rw [List.length_map]
            exact small1000 (Nat.le_trans (List.length_filter_le _ _) (by simp; omega))
          · rw [upd_ne (ne_of_none eb hD)]; exact kp b o eb hb
          · rw [upd_same, sel_yes nint (fun j => decide (ts[j]? = some none)) hr2 hx, Int.zero_add]; rfl
        · rw [decide_eq_false hc] at hx ⊢
          refine iteF ⟨kp, ?_⟩
          rw [hD', sel_no nint (fun j => decide (ts[j]? = some none)) hr2 hx]
    · rintro H' ⟨kp, hD'⟩
      refine q D H' hD kp ?_
      rw [hD']
      unfold stand
      rw [List.take_of_length_le (by simp)]
end

end Lw
namespace Lw
open PySem PySem.Spec L2 FG
open PyProof.Rows hiding St
section
variable {P : Program} {w : World} {K : PySem.W.Frag} {mg : Str → Option Value} {base : Heap}
theorem ok_row (T : Tx K mg) {fd : FuncData} {f : Addr} (F : Fun K "row" "Frames.row" s_Frames_row f fd) (m_need_begun : Met P w K mg base 3 (CF K) "need_begun" (spBeg (CF K))) : FnG P w K mg base 4 f fd ["self", "frame"] (spRow (CF K)) := by
  refine FnG.of F sc_Frames_row (fun vs H Q E h => ?_) (fun cdv A outer s H vs Q E hr h => ?_)
  · obtain ⟨p, h, t, hs, ts, n, rfl, _⟩ := h; rfl
  · obtain ⟨p, h, t, hs, ts, n, rfl, fr, hn, q⟩ := h
    obtain ⟨⟨dx, fs, e, ff⟩, lh, lt, ne, wf⟩ := id fr
    have ws := wf.small
    refine ⟨_, pss_cons (ps_expr (gm m_need_begun (hr.mono (by decide)) takes0 (pv 0) (pa_cons (pv 1) (pa_nil))))
      (pss_cons (ps_set (i := 2) sc_Frames_row.nd rfl (by first | exact Or.inl rfl | exact Or.inr rfl) (pe_lst (pa_nil)))
      (pss_cons (ps_set (i := 3) sc_Frames_row.nd rfl (by first | exact Or.inl rfl | exact Or.inr rfl) (pv 1))
      (pss_cons (ps_while (passes_of rfl) (pt_cmpR op_notN (pv 3) (pe_non) (by first | exact nomark _ | rfl)) (pss_cons (ps_expr (kbm K PySem.F.plainAttrs_list PySem.F.slot_list_insert PySem.F.type_list_insert mt_insert (pv 2) (pa_cons (pe_int) (pa_cons (pv 3) (pa_nil)))))
      (pss_one (ps_set (i := 3) sc_Frames_row.nd rfl (by first | exact Or.inl rfl | exact Or.inr rfl) (pe_ix (kixL K) (kfld K (pv 0)) (pv 3) (fun _ _ => rfl))))))
      (pss_one (ps_ret (pv 2)))))), ?_⟩
    refine ⟨_, rfl, p, dx, fs, rfl, e, ff.no _ (by decide +kernel), _, rfl, p, h, t, hs, ts, n, rfl, fr, hn, by decide, fun l hl => ⟨_, rfl, ?_⟩⟩
    refine ⟨fun m σ H' => ∃ v tail, σ = [some (.ref p), some (nint n), some (.ref l), some v] ∧ Kp [] H H' ∧ H' l = some (.lst (tail.map nint)) ∧
      ((v = .non ∧ rowW hs n = tail) ∨ ∃ a : Nat, v = nint a ∧ a < hs.length ∧ m = a + 1 ∧ rowW hs n = rowW hs a ++ tail),
      ⟨n + 1, nint n, [], rfl, fun b o eb _ => (upd_ne (ne_of_none eb hl)).trans eb, upd_same, .inr ⟨n, rfl, hn, rfl, by simp⟩⟩, ?_⟩
    rintro m σ H' ⟨v, tail, rfl, kp, hL, hv⟩
    refine ⟨_, rfl, rfl, _, rfl, ?_⟩
    rcases hv with ⟨rfl, er⟩ | ⟨a, rfl, ha, rfl, er⟩
    · refine iteF ⟨_, rfl, q l H' hl kp ?_⟩
      rw [hL, er]
    · refine iteT ⟨fun σ' H'' => ∃ m', m' < a + 1 ∧ _, fun σ' H'' z => z, ?_⟩
      have hlen := row_len wf (n + 1) n (by omega) hn
      have hlt : tail.length ≤ 200 := by
        rw [er, List.length_append] at hlen; omega
      have hne : ∀ b o, H b = some o → b ≠ l := fun b o eb => ne_of_none eb hl
      refine ⟨_, rfl, .inl ⟨rfl, _, SqL.of hL⟩, _, rfl, l, _, 0, _, rfl, rfl, hL, (by rw [List.length_map]; exact small1000 (by omega)), by decide, by decide, ?_⟩
      have e1 : upd H' l (.lst ((tail.map nint).take (0 : Int).toNat ++ [nint a] ++ (tail.map nint).drop (0 : Int).toNat)) p = some (.ins (CF K) dx fs) := (upd_ne (hne _ _ e)).trans (kp _ _ e (by simp))
      have l1 : upd H' l (.lst ((tail.map nint).take (0 : Int).toNat ++ [nint a] ++ (tail.map nint).drop (0 : Int).toNat)) h = some (.lst (hs.map enc)) := (upd_ne (hne _ _ lh)).trans (kp _ _ lh (by simp))
      refine ⟨_, rfl, p, CF K, dx, fs, _, rfl, e1, T.c_Frames, T.n_Frames_holders, ff.hh, _, rfl, h, _, _, enc hs[a], rfl, rfl, SqL.of l1, get_enc (List.getElem?_eq_getElem ha), ?_⟩
      by_cases h0 : a = 0
      · subst h0
        have eh : hs[0] = none := by have := wf.root; rw [List.getElem?_eq_getElem wf.pos] at this; exact Option.some.inj this
        refine ⟨0, by omega, _, 0 :: tail, rfl, fun b o eb hb => (upd_ne (hne _ _ eb)).trans (kp b o eb hb), upd_same, .inl ⟨by rw [eh]; rfl, ?_⟩⟩
        rw [er, row_root wf]; rfl
      · obtain ⟨j, ej, hj⟩ := wf.up a (by omega) ha
        have eh : hs[a] = some (j : Int) := by rw [List.getElem?_eq_getElem ha] at ej; exact Option.some.inj ej
        refine ⟨j + 1, by omega, _, a :: tail, rfl, fun b o eb hb => (upd_ne (hne _ _ eb)).trans (kp b o eb hb), upd_same, .inr ⟨j, by rw [eh]; rfl, by omega, rfl, ?_⟩⟩
        rw [er, row_up ej hj, List.append_assoc]; rfl
theorem ok_finish (T : Tx K mg) {fd : FuncData} {f : Addr} (F : Fun K "finish" "Frames.finish" s_Frames_finish f fd) (m_need_standing : Met P w K mg base 4 (CF K) "need_standing" (spStd (CF K))) (m_standing : Met P w K mg base 1 (CF K) "standing" (spStanding (CF K)))
    (m_row : Met P w K mg base 4 (CF K) "row" (spRow (CF K))) (m_clear : Met P w K mg base 1 (CF K) "clear" spClear) : FnG P w K mg base 5 f fd ["self", "frame"] (spFin (CF K)) := by
  refine FnG.of F sc_Frames_finish (fun vs H Q E h => ?_) (fun cdv A outer s H vs Q E hr h => ?_)
  · obtain ⟨p, h, t, hs, ts, n, rfl, _⟩ := h; rfl
  · obtain ⟨p, h, t, hs, ts, n, rfl, fr, hn, h0, q⟩ := h
    obtain ⟨⟨dx, fs, e, ff⟩, lh, lt, ne, wf⟩ := id fr
    have ws := wf.small
    have wl := wf.len
    obtain ⟨ph, pt⟩ := fr.ph
    refine ⟨_, pss_cons (ps_expr (gm m_need_standing (hr.mono (by decide)) takes0 (pv 0) (pa_cons (pv 1) (pa_nil))))
      (pss_cons (ps_if (pt_cmpR op_eq (pv 1) (pe_int) (by first | exact nomark _ | rfl)) (pss_one (ps_never)) (pss_nil))
      (pss_cons (ps_setLc (i := 2) (own := [("one", 3)]) (g := gName 3) rfl sc_Frames_finish.nd rfl rfl (sw_true rfl rfl rfl (by decide +kernel)) (kiRev K rfl T.z_reversed (pa_cons (gm0 m_standing (hr.mono (by decide)) takes0 (pv 0)) (pa_nil))) (blkOk_by (own := [("one", 3)]) (N := ["self", "frame", "ended", "one"]) (sc := defScope s_Frames_finish) (by decide +kernel)) (fun _ _ _ _ _ => pg_name (i := 3) sc_Frames_finish.nd rfl (by first | exact Or.inl rfl | exact Or.inr rfl)) (fun _ _ _ _ _ => by exact pts_one (pt_cmpR (kin K) (pv 1) (gm m_row (hr.mono (by decide)) takes0 (pv 0) (pa_cons (pv 3) (pa_nil))) (by first | exact nomark _ | rfl))) (fun _ _ _ _ _ => by exact pv 3))
      (pss_cons (ps_for (passes_of rfl) rfl (kiL K (pv 2)) (pg_name (i := 3) sc_Frames_finish.nd rfl (by first | exact Or.inl rfl | exact Or.inr rfl))
        (pss_cons (ps_asg (pv 1) (pg_sub (kfld K (pv 0)) (pv 3) set_list))
      (pss_one (ps_expr (gm m_clear (hr.mono (by decide)) takes0 (pv 0) (pa_cons (pv 3) (pa_nil)))))))
      (pss_one (ps_ret (pv 2)))))), ?_⟩
    refine ⟨_, rfl, p, dx, fs, rfl, e, ff.no _ (by decide +kernel), _, rfl, p, h, t, hs, ts, n, rfl, fr, hn, ?_⟩
    refine ⟨_, rfl, rfl, _, rfl, ?_⟩
    have z : decide (nint n = V.int 0) = false := decide_eq_false fun c => by unfold nint at c; injection c with c; omega
    rw [z]
    refine iteF ?_
    -- ended = [one for one in reversed(self.standing()) if frame in self.row(one)]
    refine ⟨_, rfl, p, dx, fs, rfl, e, ff.no _ (by decide +kernel), p, h, t, hs, ts, rfl, fr, fun l1 H1 hl1 k1 eL1 => ?_⟩
    refine ⟨l1, _, rfl, SqL.of eL1, fun D hD => ?_⟩
    have neD : ∀ b o, H1 b = some o → b ≠ D := fun b o eb => ne_of_none eb hD
    refine lc_it walk_rev (fun i H2 => Kp [] H1 H2 ∧ H2 D = some (.lst ((((stand ts).reverse.take i).filter fun k => decide (n ∈ rowW hs k)).map nint)))
      ⟨fun b o eb _ => (upd_ne (neD b o eb)).trans eb, upd_same⟩ (fun i H2 _ ⟨k2, _⟩ => SqL.of (k2 _ _ eL1 (by simp))) ?_ ?_
    · rintro i x H3 H2 hi ⟨k2, eD⟩ ⟨rfl, hx⟩
      rw [List.length_map] at hi hx
      obtain ⟨k, hk, rfl⟩ : ∃ k, (stand ts)[(stand ts).length - 1 - i]? = some k ∧ x = nint k := by
        rw [List.getElem?_map] at hx
        cases ek : (stand ts)[(stand ts).length - 1 - i]? with
        | none => rw [ek] at hx; cases hx
        | some k => rw [ek] at hx; exact ⟨k, rfl, (Option.some.inj hx).symm⟩
      have hr : (stand ts).reverse[i]? = some k := by rw [List.getElem?_reverse hi]; exact hk
      have hkt : ts[k]? = some none := mem_stand.mp (List.mem_of_getElem? hk)
      have hkl : k < hs.length := by have := (List.getElem?_eq_some_iff.mp hkt).1; omega
      have kH : Kp [] H H2 := k1.trans k2
      refine ⟨rfl, _, rfl, _, rfl, p, dx, fs, rfl, kH _ _ e (by simp), ff.no _ (by decide +kernel), _, rfl, p, h, t, hs, ts, k, rfl, fr.kp0 kH, hkl, fun l4 H4 hl4 k4 eL4 => ?_⟩
      refine ⟨l4, _, rfl, .inl (SqL.of eL4), rfl, flat_nint _, _, rfl, ?_⟩
      have eD4 : H4 D = some (.lst ((((stand ts).reverse.take i).filter fun k => decide (n ∈ rowW hs k)).map nint)) := k4 _ _ eD (by simp)
      show if inV (.int (n : Int)) ((rowW hs k).map nint) = true then _ else _
      rw [inV_nint]
      by_cases hc : n ∈ rowW hs k
      · rw [decide_eq_true hc]
        refine iteT ⟨_, rfl, _, eD4, ?_, fun b o eb hb => ?_, ?_⟩
        · rw [List.length_map]
          have := stand_len ts
          refine small1000 (Nat.le_trans (List.length_filter_le _ _) (Nat.le_trans (List.length_take_le _ _) ?_))
          omega
        · rw [upd_ne (neD b o eb)]; exact (k2.trans k4) b o eb hb
        · rw [upd_same, sel_yes nint (fun k => decide (n ∈ rowW hs k)) hr (decide_eq_true hc)]
      · rw [decide_eq_false hc]
        refine iteF ⟨k2.trans k4, ?_⟩
        rw [eD4, sel_no nint (fun k => decide (n ∈ rowW hs k)) hr (decide_eq_false hc)]
    · rintro H2 ⟨k2, eD⟩
      have eD' : H2 D = some (.lst ((fin hs ts n).map nint)) := by
        rw [eD, List.length_map, ← List.length_reverse, List.take_length]; rfl
      have kH : Kp [] H H2 := k1.trans k2
      have hDH : H D = none := k1.free hD
      have Dt : D ≠ t := fun c => by rw [c, lt] at hDH; cases hDH
      refine ⟨_, rfl, D, rfl, ⟨_, SqL.of eD'⟩, for_list (K := K) (a := D) (xs := (fin hs ts n).map nint) (fun i σ H3 => ∃ v, σ = [some (.ref p), some (nint n), some (.ref D), v] ∧ Kp [t] H H3 ∧ H3 D = some (.lst ((fin hs ts n).map nint)) ∧
        H3 t = some (.lst ((taken ts ((fin hs ts n).take i) n).map enc))) ⟨none, rfl, fun b o eb _ => kH b o eb (by simp), eD', (kH _ _ lt (by simp)).trans rfl⟩ (fun i σ H3 _ ⟨_, _, _, eD3, _⟩ => SqL.of eD3) ?_ ?_⟩
      · rintro i x σ H3 hx ⟨v, rfl, k3, eD3, et3⟩
        obtain ⟨k, hk, rfl⟩ : ∃ k, (fin hs ts n)[i]? = some k ∧ x = nint k := by
          rw [List.getElem?_map] at hx
          cases ek : (fin hs ts n)[i]? with
          | none => rw [ek] at hx; cases hx
          | some k => rw [ek] at hx; exact ⟨k, rfl, (Option.some.inj hx).symm⟩
        have hkt : ts[k]? = some none := fin_stand (List.mem_of_getElem? hk)
        have hkl : k < ts.length := (List.getElem?_eq_some_iff.mp hkt).1
        refine ⟨_, rfl, _, rfl, p, CF K, dx, fs, _, rfl, k3 _ _ e (by simpa using pt), T.c_Frames, T.n_Frames_takers, ff.tt, _, rfl, _, _, _, k, rfl, rfl, et3, ?_, ?_⟩
        · unfold ixN
          rw [if_pos (by omega), if_pos (by rw [List.length_map, taken_len]; omega)]; rfl
        · refine ⟨_, rfl, p, dx, fs, rfl, (upd_ne pt).trans (k3 _ _ e (by simpa using pt)), ff.no _ (by decide +kernel), _, rfl, _, _, rfl, _, rfl, fun b o eb hb => ?_, (upd_ne Dt).trans eD3, ?_⟩
          · have hb2 : b ≠ t := by simpa using hb
            rw [upd_ne hb2]; exact k3 b o eb hb
          · rw [upd_same]
            unfold taken
            rw [foldl_more _ hk, List.map_set]; rfl
      · rintro σ H3 ⟨v, rfl, k3, eD3, et3⟩
        rw [List.length_map, List.take_length] at et3
        refine ⟨_, rfl, q D H3 hDH k3 ⟨⟨dx, fs, k3 _ _ e (by simpa using pt), ff⟩, k3 _ _ lh (by simpa using ne), et3, ne, wf.taken _ _⟩ eD3⟩
end

end Lw
namespace Lw
open PySem PySem.Spec L2 FG
open PyProof.Rows hiding St
/-! ### the law's own frames -/
/-- at m the law's dict, its lists at mh and mt -/
structure ModAt (H : Hp) (m mh mt : Addr) (hs ts : List (Option Int)) : Prop where
  d : H m = some (.dK [(.inr "holders", .ref mh), (.inr "takers", .ref mt)])
  lh : H mh = some (.lst (hs.map enc))
  lt : H mt = some (.lst (ts.map enc))
  ne : mh ≠ mt
theorem ModAt.kp {S : List Addr} {H H' : Hp} {m mh mt : Addr} {hs ts : List (Option Int)} (f : ModAt H m mh mt hs ts) (k : Kp S H H') (h1 : m ∉ S) (h2 : mh ∉ S) (h3 : mt ∉ S) : ModAt H' m mh mt hs ts :=
  ⟨k _ _ f.d h1, k _ _ f.lh h2, k _ _ f.lt h3, f.ne⟩
theorem ModAt.kp0 {H H' : Hp} {m mh mt : Addr} {hs ts : List (Option Int)} (f : ModAt H m mh mt hs ts) (k : Kp [] H H') : ModAt H' m mh mt hs ts := f.kp k (by simp) (by simp) (by simp)
theorem ModAt.getH {H : Hp} {m mh mt : Addr} {hs ts : List (Option Int)} (f : ModAt H m mh mt hs ts) : DGet H m (.str "holders") (some (.ref mh)) := by
  have z := DGet.k (k := Sum.inr ("holders" : Str)) f.d
  have e : valV [((.inr "holders" : Key), V.ref mh), (.inr "takers", .ref mt)] (Sum.inr ("holders" : Str)) = some (.ref mh) := by simp [valV]
  rw [e] at z; exact z
theorem ModAt.getT {H : Hp} {m mh mt : Addr} {hs ts : List (Option Int)} (f : ModAt H m mh mt hs ts) : DGet H m (.str "takers") (some (.ref mt)) := by
  have z := DGet.k (k := Sum.inr ("takers" : Str)) f.d
  have e : valV [((.inr "holders" : Key), V.ref mh), (.inr "takers", .ref mt)] (Sum.inr ("takers" : Str)) = some (.ref mt) := by
    have n1 : ¬ ((("holders" : Str)) = "takers") := by decide +kernel
    simp [valV, n1]
  rw [e] at z; exact z
def spModel : Sp := fun vs H Q _ => vs = [] ∧ ∀ m mh mt H', H m = none → H mh = none → H mt = none → Kp [] H H' → ModAt H' m mh mt [none] [none] → Q (.ref m) H'
def spLStanding : Sp := fun vs H Q _ => ∃ m mh mt hs ts, vs = [.ref m] ∧ ModAt H m mh mt hs ts ∧ ts.length ≤ 1000 ∧ ∀ l H', H l = none → Kp [] H H' → H' l = some (.lst ((stand ts).map nint)) → Q (.ref l) H'
def spLRow : Sp := fun vs H Q _ => ∃ m mh mt hs ts, ∃ n : Nat, vs = [.ref m, nint n] ∧ ModAt H m mh mt hs ts ∧ Wf hs ts ∧ n < hs.length ∧ ∀ l H', H l = none → Kp [] H H' → H' l = some (.lst ((rowW hs n).map nint)) → Q (.ref l) H'
def spLBegin : Sp := fun vs H Q _ => ∃ m mh mt hs ts, ∃ n : Nat, vs = [.ref m, nint n] ∧ ModAt H m mh mt hs ts ∧ hs.length ≤ 900 ∧ ts.length ≤ 900 ∧ ∀ H', Kp [mh, mt] H H' → ModAt H' m mh mt (hs ++ [some (n : Int)]) (ts ++ [none]) → Q (nint hs.length) H'
def spLFin : Sp := fun vs H Q _ => ∃ m mh mt hs ts, ∃ n : Nat, vs = [.ref m, nint n] ∧ ModAt H m mh mt hs ts ∧ Wf hs ts ∧ ∀ l H', H l = none → Kp [mt] H H' → ModAt H' m mh mt hs (taken ts (fin hs ts n) n) → H' l = some (.lst ((fin hs ts n).map nint)) → Q (.ref l) H'
section
variable {P : Program} {w : World} {K : PySem.W.Frag} {mg : Str → Option Value} {base : Heap}
theorem ok_model (T : Tx K mg) {fd : FuncData} (F : Fun K "_law_model" "_law_model" s__law_model (He.ga K "_law_model") fd) : FnG P w K mg base 1 (He.ga K "_law_model") fd [] spModel := by
  refine FnG.of F sc__law_model (fun vs H Q E h => ?_) (fun cdv A outer s H vs Q E hr h => ?_)
  · obtain ⟨rfl, _⟩ := h; rfl
  · obtain ⟨rfl, q⟩ := h
    refine ⟨_, pss_one (ps_ret (pe_disp (pps_cons (pe_str) (pe_lst (pa_cons (pe_non) (pa_nil))) (pps_cons (pe_str) (pe_lst (pa_cons (pe_non) (pa_nil))) (pps_nil))) (by rfl) (by rfl) (fun z => by cases z) (by decide))), ?_⟩
    refine fun m hm => ⟨by decide, fun mh hmh => ⟨by decide, fun mt hmt => ?_⟩⟩
    have n1 : mh ≠ m := fun c => by rw [c, upd_same] at hmh; cases hmh
    have n2 : mt ≠ mh := fun c => by rw [c, upd_same] at hmt; cases hmt
    have n3 : mt ≠ m := fun c => by rw [c, upd_ne n1.symm, upd_same] at hmt; cases hmt
    have h1 : H mh = none := by rw [upd_ne n1] at hmh; exact hmh
    have h2 : H mt = none := by rw [upd_ne n2, upd_ne n3] at hmt; exact hmt
    refine ⟨by rw [upd_ne n3.symm, upd_ne n1.symm, upd_same], [(.inr "holders", .ref mh), (.inr "takers", .ref mt)], rfl, (by show 2 ≤ 15; decide), ?_⟩
    have e : mergeK ([] : List (Key × V)) [(.inr "holders", .ref mh), (.inr "takers", .ref mt)] = [(.inr "holders", .ref mh), (.inr "takers", .ref mt)] := by
      have n1 : ¬ ((("holders" : Str)) = "takers") := by decide +kernel
      simp [mergeK, putK, n1]
    rw [e]
    refine q m mh mt _ hm h1 h2 (fun b o eb _ => ?_) ⟨upd_same, ?_, ?_, n2.symm⟩
    · rw [upd_ne (ne_of_none eb hm), upd_ne (ne_of_none eb h2), upd_ne (ne_of_none eb h1), upd_ne (ne_of_none eb hm)]; exact eb
    · rw [upd_ne n1, upd_ne n2.symm, upd_same]; rfl
    · rw [upd_ne n3, upd_same]; rfl
theorem ok_lstanding (T : Tx K mg) {fd : FuncData} (F : Fun K "_law_standing" "_law_standing" s__law_standing (He.ga K "_law_standing") fd) : FnG P w K mg base 1 (He.ga K "_law_standing") fd ["_law_model_here"] spLStanding := by
  refine FnG.of F sc__law_standing (fun vs H Q E h => ?_) (fun cdv A outer s H vs Q E hr h => ?_)
  · obtain ⟨m, mh, mt, hs, ts, rfl, _⟩ := h; rfl
  · obtain ⟨m, mh, mt, hs, ts, rfl, md, hz, q⟩ := h
    refine ⟨_, pss_one (ps_ret (pe_lc (own := [("_law_k", 1)]) (g := gName 1) rfl sc__law_standing.nd (pi_range1 rfl T.z_range (pa_cons (pe_callB (klen K) (by rfl) T.z_len PySem.boot_len (pa_cons (pe_dget hr.hu (pv 0) (pe_str) (fun _ _ => rfl)) (pa_nil))) (pa_nil))) (blkOk_by (own := [("_law_k", 1)]) (N := ["_law_model_here", "_law_k"]) (sc := defScope s__law_standing) (by decide +kernel)) (fun _ _ _ _ _ => pg_name (i := 1) sc__law_standing.nd rfl (by first | exact Or.inl rfl | exact Or.inr rfl)) (fun _ _ _ _ _ => by exact pts_one (pt_cmpR op_isN (pe_ix (kixL K) (pe_dget hr.hu (pv 0) (pe_str) (fun _ _ => rfl)) (pv 1) (fun _ _ => rfl)) (pe_non) (by first | exact nomark _ | rfl))) (fun _ _ _ _ _ => by exact pv 1))), ?_⟩
    refine ⟨_, rfl, m, _, rfl, md.getT, mt, _, rfl, .inl (SqL.of md.lt), _, rfl, (by rw [List.length_map]; omega), (by rw [List.length_map]; omega), fun D hD => ?_⟩
    refine lc_range (lo := 0) (n := _) (fun i H' => Kp [] H H' ∧ H' D = some (.lst ((((List.range ts.length).take i).filter fun j => decide (ts[j]? = some none)).map nint)))
      ⟨fun b o eb _ => (upd_ne (ne_of_none eb hD)).trans eb, upd_same⟩ ?_ ?_
    · rintro i H' hi ⟨kp, hD'⟩
      have hi2 : i < ts.length := by simpa using hi
      have md' := md.kp0 kp
      refine ⟨rfl, _, rfl, m, _, rfl, md'.getT, _, rfl, mt, _, _, enc ts[i], rfl, rfl, SqL.of md'.lt, ?_, rfl, _, rfl, ?_⟩
      · rw [Int.zero_add]; exact get_enc (List.getElem?_eq_getElem hi2)
      · have hr2 : (List.range ts.length)[i]? = some i := by simp [hi2]
        have hx : decide (ts[i]? = some none) = decide (enc ts[i] = V.non) := by
          rw [List.getElem?_eq_getElem hi2]
          cases ts[i] <;> simp [enc]
        by_cases hc : enc ts[i] = V.non
        · rw [decide_eq_true hc] at hx ⊢
          refine iteT ⟨_, rfl, _, hD', ?_, fun b o eb hb => ?_, ?_⟩
          · rw [List.length_map]
            exact small1000 (Nat.le_trans (List.length_filter_le _ _) (by simp; omega))
          · rw [upd_ne (ne_of_none eb hD)]; exact kp b o eb hb
          · rw [upd_same, sel_yes nint (fun j => decide (ts[j]? = some none)) hr2 hx, Int.zero_add]; rfl
        · rw [decide_eq_false hc] at hx ⊢
          refine iteF ⟨kp, ?_⟩
          rw [hD', sel_no nint (fun j => decide (ts[j]? = some none)) hr2 hx]
    · rintro H' ⟨kp, hD'⟩
      refine q D H' hD kp ?_
      rw [hD']
      unfold stand
      rw [List.take_of_length_le (by simp)]
theorem ok_lbegin (T : Tx K mg) {fd : FuncData} (F : Fun K "_law_begin" "_law_begin" s__law_begin (He.ga K "_law_begin") fd) : FnG P w K mg base 1 (He.ga K "_law_begin") fd ["_law_model_here", "_law_frame"] spLBegin := by
  refine FnG.of F sc__law_begin (fun vs H Q E h => ?_) (fun cdv A outer s H vs Q E hr h => ?_)
  · obtain ⟨m, mh, mt, hs, ts, n, rfl, _⟩ := h; rfl
  · obtain ⟨m, mh, mt, hs, ts, n, rfl, md, z1, z2, q⟩ := h
    obtain ⟨d, lh, lt, ne⟩ := id md
    have n1 : m ≠ mh := ne_of d lh (by intro c; cases c)
    have n2 : m ≠ mt := ne_of d lt (by intro c; cases c)
    refine ⟨_, pss_cons (ps_expr (kbm K PySem.F.plainAttrs_list PySem.F.slot_list_append PySem.F.type_list_append mt_append (pe_dget hr.hu (pv 0) (pe_str) (fun _ _ => rfl)) (pa_cons (pv 1) (pa_nil))))
      (pss_cons (ps_expr (kbm K PySem.F.plainAttrs_list PySem.F.slot_list_append PySem.F.type_list_append mt_append (pe_dget hr.hu (pv 0) (pe_str) (fun _ _ => rfl)) (pa_cons (pe_non) (pa_nil))))
      (pss_one (ps_ret (pe_op op_sub (pe_callB (klen K) (by rfl) T.z_len PySem.boot_len (pa_cons (pe_dget hr.hu (pv 0) (pe_str) (fun _ _ => rfl)) (pa_nil))) (pe_int))))), ?_⟩
    refine ⟨_, rfl, m, _, rfl, md.getH, .inl ⟨rfl, _, SqL.of lh⟩, _, rfl, mh, _, _, rfl, rfl, lh, (by rw [List.length_map]; exact small1000 (by omega)), ?_⟩
    have md1 : ModAt (upd H mh (.lst (hs.map enc ++ [nint n]))) m mh mt (hs ++ [some (n : Int)]) ts := ⟨(upd_ne n1).trans d, by rw [upd_same, List.map_append]; rfl, (upd_ne ne.symm).trans lt, ne⟩
    refine ⟨_, rfl, m, _, rfl, md1.getT, .inl ⟨rfl, _, SqL.of md1.lt⟩, mt, _, _, rfl, rfl, md1.lt, (by rw [List.length_map]; exact small1000 (by omega)), ?_⟩
    have md2 : ModAt (upd (upd H mh (.lst (hs.map enc ++ [nint n]))) mt (.lst (ts.map enc ++ [V.non]))) m mh mt (hs ++ [some (n : Int)]) (ts ++ [none]) := ⟨(upd_ne n2).trans md1.d, (upd_ne ne).trans md1.lh, by rw [upd_same, List.map_append]; rfl, ne⟩
    refine ⟨_, rfl, m, _, rfl, md2.getH, mh, _, rfl, .inl (SqL.of md2.lh), _, _, rfl, rfl, rt_of (b := nint hs.length) (congrArg V.int (by simp)) (q _ (fun b o eb hb => ?_) md2)⟩
    simp at hb
    rw [upd_ne hb.2, upd_ne hb.1]; exact eb
end

end Lw
namespace Lw
open PySem PySem.Spec L2 FG
open PyProof.Rows hiding St
section
variable {P : Program} {w : World} {K : PySem.W.Frag} {mg : Str → Option Value} {base : Heap}
theorem ok_lrow (T : Tx K mg) {fd : FuncData} (F : Fun K "_law_row" "_law_row" s__law_row (He.ga K "_law_row") fd) : FnG P w K mg base 1 (He.ga K "_law_row") fd ["_law_model_here", "_law_frame"] spLRow := by
  refine FnG.of F sc__law_row (fun vs H Q E h => ?_) (fun cdv A outer s H vs Q E hr h => ?_)
  · obtain ⟨m, mh, mt, hs, ts, n, rfl, _⟩ := h; rfl
  · obtain ⟨m, mh, mt, hs, ts, n, rfl, md, wf, hn, q⟩ := h
    have ws := wf.small
    refine ⟨_, pss_cons (ps_set (i := 2) sc__law_row.nd rfl (by first | exact Or.inl rfl | exact Or.inr rfl) (pe_lst (pa_cons (pv 1) (pa_nil))))
      (pss_cons (ps_while (passes_of rfl) (pt_cmpR op_notN (pe_ix (kixL K) (pe_dget hr.hu (pv 0) (pe_str) (fun _ _ => rfl)) (pe_ix (kixL K) (pv 2) (pe_int) (fun _ _ => rfl)) (fun _ _ => rfl)) (pe_non) (by first | exact nomark _ | rfl)) (pss_one (ps_set (i := 2) sc__law_row.nd rfl (by first | exact Or.inl rfl | exact Or.inr rfl) (pe_op op_cat (pe_lst (pa_cons (pe_ix (kixL K) (pe_dget hr.hu (pv 0) (pe_str) (fun _ _ => rfl)) (pe_ix (kixL K) (pv 2) (pe_int) (fun _ _ => rfl)) (fun _ _ => rfl)) (pa_nil))) (pv 2)))))
      (pss_one (ps_ret (pv 2)))), ?_⟩
    refine ⟨_, rfl, (by show 1 ≤ sizeLine; decide), fun l hl => ?_⟩
    refine ⟨fun x σ H' => ∃ l' tail, ∃ a : Nat, σ = [some (.ref m), some (nint n), some (.ref l')] ∧ Kp [] H H' ∧ H l' = none ∧ H' l' = some (.lst ((a :: tail).map nint)) ∧ a < hs.length ∧ x = a ∧ rowW hs n = rowW hs a ++ tail,
      ⟨n, l, [], n, rfl, fun b o eb _ => (upd_ne (ne_of_none eb hl)).trans eb, hl, upd_same, hn, rfl, by simp⟩, ?_⟩
    rintro a σ H' ⟨l', tail, a2, rfl, kp, hl', hL, ha, ex, er⟩
    subst ex
    have md' := md.kp0 kp
    have hlen := row_len wf (n + 1) n (by omega) hn
    have hlt : tail.length ≤ 200 := by rw [er, List.length_append] at hlen; omega
    refine ⟨_, rfl, m, _, rfl, md'.getH, _, rfl, l', _, _, nint a, rfl, rfl, SqL.of hL, atI_nat (j := 0) rfl, mh, _, _, enc hs[a], rfl, rfl, SqL.of md'.lh, get_enc (List.getElem?_eq_getElem ha), rfl, _, rfl, ?_⟩
    by_cases h0 : a = 0
    · subst h0
      have eh : hs[0] = none := by have := wf.root; rw [List.getElem?_eq_getElem wf.pos] at this; exact Option.some.inj this
      rw [eh]
      refine iteF ⟨_, rfl, q l' H' hl' kp ?_⟩
      rw [hL, er, row_root wf]; rfl
    · obtain ⟨j, ej, hj⟩ := wf.up a (by omega) ha
      have eh : hs[a] = some (j : Int) := by rw [List.getElem?_eq_getElem ha] at ej; exact Option.some.inj ej
      rw [eh]
      refine iteT ⟨fun σ' H'' => ∃ m', m' < a ∧ _, fun σ' H'' z => z, ?_⟩
      refine ⟨_, rfl, m, _, rfl, md'.getH, _, rfl, l', _, _, nint a, rfl, rfl, SqL.of hL, atI_nat (j := 0) rfl, mh, _, _, enc hs[a], rfl, rfl, SqL.of md'.lh, get_enc (List.getElem?_eq_getElem ha), (by show 1 ≤ sizeLine; decide), fun l1 h1 => ?_⟩
      have n1 : l' ≠ l1 := ne_of_none hL h1
      refine ⟨_, rfl, l1, l', _, _, rfl, rfl, upd_same, (upd_ne n1).trans hL, (by rw [List.length_map]; show 1 + (tail.length + 1) ≤ sizeLine; exact Nat.le_trans (by omega : _ ≤ 1000) (by decide)), fun l2 h2 => ?_⟩
      have n2 : l2 ≠ l1 := fun c => by rw [c, upd_same] at h2; cases h2
      have h2' : H' l2 = none := by rw [upd_ne n2] at h2; exact h2
      have kp2 : Kp [] H (upd (upd H' l1 (.lst [enc hs[a]])) l2 (.lst ([enc hs[a]] ++ ((a :: tail).map nint)))) := fun b o eb hb => by
        have z := kp b o eb hb
        rw [upd_ne (ne_of_none z h2'), upd_ne (ne_of_none z h1)]; exact z
      refine ⟨j, hj, l2, a :: tail, j, rfl, kp2, kp.free h2', ?_, by omega, rfl, ?_⟩
      · rw [upd_same, eh]; rfl
      · rw [er, row_up ej hj, List.append_assoc]; rfl
theorem ok_lfinish (T : Tx K mg) {fd : FuncData} (F : Fun K "_law_finish" "_law_finish" s__law_finish (He.ga K "_law_finish") fd) (c__law_standing : Cal P w K mg base 1 "_law_standing" spLStanding) (c__law_row : Cal P w K mg base 1 "_law_row" spLRow) :
    FnG P w K mg base 2 (He.ga K "_law_finish") fd ["_law_model_here", "_law_frame"] spLFin := by
  refine FnG.of F sc__law_finish (fun vs H Q E h => ?_) (fun cdv A outer s H vs Q E hr h => ?_)
  · obtain ⟨m, mh, mt, hs, ts, n, rfl, _⟩ := h; rfl
  · obtain ⟨m, mh, mt, hs, ts, n, rfl, md, wf, q⟩ := h
    obtain ⟨d, lh, lt, ne⟩ := id md
    have n2 : m ≠ mt := ne_of d lt (by intro c; cases c)
    have ws := wf.small
    have wl := wf.len
    refine ⟨_, pss_cons (ps_setLc (i := 2) (own := [("_law_k", 3)]) (g := gName 3) rfl sc__law_finish.nd rfl rfl (sw_true rfl rfl rfl (by decide +kernel)) (kiL K (krevL K (gc c__law_standing (hr.mono (by decide)) takes0 (pa_cons (pv 0) (pa_nil))))) (blkOk_by (own := [("_law_k", 3)]) (N := ["_law_model_here", "_law_frame", "_law_ended", "_law_k"]) (sc := defScope s__law_finish) (by decide +kernel)) (fun _ _ _ _ _ => pg_name (i := 3) sc__law_finish.nd rfl (by first | exact Or.inl rfl | exact Or.inr rfl)) (fun _ _ _ _ _ => by exact pts_one (pt_cmpR (kin K) (pv 1) (gc c__law_row (hr.mono (by decide)) takes0 (pa_cons (pv 0) (pa_cons (pv 3) (pa_nil)))) (by first | exact nomark _ | rfl))) (fun _ _ _ _ _ => by exact pv 3))
      (pss_cons (ps_for (passes_of rfl) rfl (kiL K (pv 2)) (pg_name (i := 3) sc__law_finish.nd rfl (by first | exact Or.inl rfl | exact Or.inr rfl))
        (pss_one (ps_asg (pv 1) (pg_sub (pe_dget hr.hu (pv 0) (pe_str) (fun _ _ => rfl)) (pv 3) set_list))))
      (pss_one (ps_ret (pv 2)))), ?_⟩
    refine ⟨_, rfl, m, mh, mt, hs, ts, rfl, md, by omega, fun l1 H1 hl1 k1 eL1 => ?_⟩
    refine ⟨l1, _, rfl, SqL.of eL1, fun l2 hl2 => ⟨l2, rfl, ⟨_, SqL.of upd_same⟩, fun D hD => ?_⟩⟩
    have k2 : Kp [] H1 (upd H1 l2 (.lst ((stand ts).map nint).reverse)) := fun b o eb _ => (upd_ne (ne_of_none eb hl2)).trans eb
    have eL2 : upd H1 l2 (.lst ((stand ts).map nint).reverse) l2 = some (.lst ((stand ts).reverse.map nint)) := by rw [upd_same, List.map_reverse]
    generalize hH2 : upd H1 l2 (.lst ((stand ts).map nint).reverse) = H2 at *
    have kH2 : Kp [] H H2 := k1.trans k2
    have neD : ∀ b o, H2 b = some o → b ≠ D := fun b o eb => ne_of_none eb hD
    refine lc_list (K := K) (a := l2) (xs := (stand ts).reverse.map nint) (fun i H3 => Kp [] H2 H3 ∧ H3 D = some (.lst ((((stand ts).reverse.take i).filter fun k => decide (n ∈ rowW hs k)).map nint)))
      ⟨fun b o eb _ => (upd_ne (neD b o eb)).trans eb, upd_same⟩ (fun i H3 _ ⟨k3, _⟩ => SqL.of (k3 _ _ eL2 (by simp))) ?_ ?_
    · rintro i x H3 hx ⟨k3, eD⟩
      obtain ⟨k, hr, rfl⟩ : ∃ k, (stand ts).reverse[i]? = some k ∧ x = nint k := by
        rw [List.getElem?_map] at hx
        cases ek : (stand ts).reverse[i]? with
        | none => rw [ek] at hx; cases hx
        | some k => rw [ek] at hx; exact ⟨k, rfl, (Option.some.inj hx).symm⟩
      have hkt : ts[k]? = some none := mem_stand.mp (List.mem_reverse.mp (List.mem_of_getElem? hr))
      have hkl : k < hs.length := by have := (List.getElem?_eq_some_iff.mp hkt).1; omega
      have hi : i < (stand ts).reverse.length := (List.getElem?_eq_some_iff.mp hr).1
      rw [List.length_reverse] at hi
      have sl := stand_len ts
      refine ⟨rfl, _, rfl, _, rfl, _, rfl, m, mh, mt, hs, ts, k, rfl, md.kp0 (kH2.trans k3), wf, hkl, fun l4 H4 hl4 k4 eL4 => ?_⟩
      refine ⟨l4, _, rfl, .inl (SqL.of eL4), rfl, flat_nint _, _, rfl, ?_⟩
      have eD4 : H4 D = some (.lst ((((stand ts).reverse.take i).filter fun k => decide (n ∈ rowW hs k)).map nint)) := k4 _ _ eD (by simp)
      show if inV (.int (n : Int)) ((rowW hs k).map nint) = true then _ else _
      rw [inV_nint]
      by_cases hc : n ∈ rowW hs k
      · rw [decide_eq_true hc]
        refine iteT ⟨_, rfl, _, eD4, ?_, fun b o eb hb => ?_, ?_⟩
        · rw [List.length_map]
          exact small1000 (Nat.le_trans (List.length_filter_le _ _) (Nat.le_trans (List.length_take_le _ _) (by omega)))
        · rw [upd_ne (neD b o eb)]; exact (k3.trans k4) b o eb hb
        · rw [upd_same, sel_yes nint (fun k => decide (n ∈ rowW hs k)) hr (decide_eq_true hc)]
      · rw [decide_eq_false hc]
        refine iteF ⟨k3.trans k4, ?_⟩
        rw [eD4, sel_no nint (fun k => decide (n ∈ rowW hs k)) hr (decide_eq_false hc)]
    · rintro H3 ⟨k3, eD⟩
      have eD' : H3 D = some (.lst ((fin hs ts n).map nint)) := by
        rw [eD, List.length_map, List.take_length]; rfl
      have kH : Kp [] H H3 := kH2.trans k3
      have hDH : H D = none := kH2.free hD
      have Dt : D ≠ mt := fun c => by rw [c, lt] at hDH; cases hDH
      refine ⟨_, rfl, D, rfl, ⟨_, SqL.of eD'⟩, for_list (K := K) (a := D) (xs := (fin hs ts n).map nint) (fun i σ H4 => ∃ v, σ = [some (.ref m), some (nint n), some (.ref D), v] ∧ Kp [mt] H H4 ∧ H4 D = some (.lst ((fin hs ts n).map nint)) ∧
        ModAt H4 m mh mt hs (taken ts ((fin hs ts n).take i) n)) ⟨none, rfl, fun b o eb _ => kH b o eb (by simp), eD', (md.kp0 kH)⟩ (fun i σ H4 _ ⟨_, _, _, eD4, _⟩ => SqL.of eD4) ?_ ?_⟩
      · rintro i x σ H4 hx ⟨v, rfl, k4, eD4, md4⟩
        obtain ⟨k, hk, rfl⟩ : ∃ k, (fin hs ts n)[i]? = some k ∧ x = nint k := by
          rw [List.getElem?_map] at hx
          cases ek : (fin hs ts n)[i]? with
          | none => rw [ek] at hx; cases hx
          | some k => rw [ek] at hx; exact ⟨k, rfl, (Option.some.inj hx).symm⟩
        have hkt : ts[k]? = some none := fin_stand (List.mem_of_getElem? hk)
        have hkl : k < ts.length := (List.getElem?_eq_some_iff.mp hkt).1
        refine ⟨_, rfl, _, rfl, m, _, rfl, md4.getT, _, rfl, _, _, _, k, rfl, rfl, md4.lt, ?_, ?_⟩
        · unfold ixN
          rw [if_pos (by omega), if_pos (by rw [List.length_map, taken_len]; omega)]; rfl
        · refine ⟨_, rfl, fun b o eb hb => ?_, (upd_ne Dt).trans eD4, ⟨(upd_ne n2).trans md4.d, (upd_ne ne).trans md4.lh, ?_, ne⟩⟩
          · have hb2 : b ≠ mt := by simpa using hb
            rw [upd_ne hb2]; exact k4 b o eb hb
          · rw [upd_same]
            unfold taken
            rw [foldl_more _ hk, List.map_set]; rfl
      · rintro σ H4 ⟨v, rfl, k4, eD4, md4⟩
        rw [List.length_map, List.take_length] at md4
        exact ⟨_, rfl, q D H4 hDH k4 md4 eD4⟩
end

end Lw
namespace Lw
open PySem PySem.Spec L2 FG
open PyProof.Rows hiding St
theorem But.kp {b : Addr} {H H' : Hp} (k : But b H H') : Kp [b] H H' := fun a o e h => (k a (by simpa using h)).trans e
theorem Kp.mono {S S' : List Addr} {H H' : Hp} (k : Kp S H H') (h : ∀ a ∈ S, a ∈ S') : Kp S' H H' := fun b o e n => k b o e fun z => n (h b z)
theorem BoxAt.kp {S : List Addr} {H H' : Hp} {b : Addr} {n : Int} (x : BoxAt H b n) (k : Kp S H H') (h : b ∉ S) : BoxAt H' b n := by
  obtain ⟨x, y, c, e, r⟩ := x
  exact ⟨x, y, c, k _ _ e h, r⟩
theorem BoxAt.more {H : Hp} {b : Addr} {n m : Int} (x : BoxAt H b n) (h : n ≤ m) : BoxAt H b m := by
  obtain ⟨x, y, c, e, a1, a2, a3, a4, a5⟩ := x
  exact ⟨x, y, c, e, a1, a2, a3, a4, by omega⟩
theorem pick {xs : List Nat} {z : Int} (h0 : 0 ≤ z) (h1 : z < xs.length) : ∃ x ∈ xs, atI (xs.map nint) z = some (nint x) := by
  obtain ⟨j, rfl⟩ : ∃ j : Nat, z = j := ⟨z.toNat, by omega⟩
  have hj : j < xs.length := by omega
  exact ⟨xs[j], List.getElem_mem hj, atI_nat (by rw [List.getElem?_map, List.getElem?_eq_getElem hj]; rfl)⟩
def spOne : Sp := fun vs H Q _ => ∃ (b l : Addr) (n : Int) (xs : List Nat), vs = [.ref b, .ref l] ∧ BoxAt H b n ∧ n < 100000000 ∧ H l = some (.lst (xs.map nint)) ∧ b ≠ l ∧ xs ≠ [] ∧ xs.length ≤ 1000 ∧
  ∀ H' x, x ∈ xs → Kp [b] H H' → BoxAt H' b (n + 2) → Q (nint x) H'
/-- those that take are small -/
def TOk (ts : List (Option Int)) : Prop := ∀ i, some i ∈ ts → i.natAbs < 1000
theorem TOk.more {ts : List (Option Int)} (h : TOk ts) : TOk (ts ++ [none]) := fun i hi => by
  rcases List.mem_append.mp hi with z | z
  · exact h i z
  · simp at z
theorem TOk.taken {f : Nat} (hf : f < 1000) : ∀ (ks : List Nat) {ts : List (Option Int)}, TOk ts → TOk (taken ts ks f) := by
  intro ks
  induction ks with
  | nil => intro ts h; exact h
  | cons k ks ih =>
    intro ts h
    refine ih (ts := ts.set k (some (f : Int))) fun i hi => ?_
    rcases List.mem_or_eq_of_mem_set hi with z | z
    · exact h i z
    · cases z; omega
/-- both tell the same frames -/
structure Pr (C : Addr) (H : Hp) (p h t m mh mt : Addr) (hs ts : List (Option Int)) : Prop where
  f : FrAt C H p h t hs ts
  m : ModAt H m mh mt hs ts
  g : ts[0]? = some none
  tk : TOk ts
  sep : [h, t, mh, mt].Nodup
theorem Pr.kp {S : List Addr} {C : Addr} {H H' : Hp} {p h t m mh mt : Addr} {hs ts : List (Option Int)} (x : Pr C H p h t m mh mt hs ts) (k : Kp S H H') (n : ∀ a ∈ S, a ∉ [p, h, t, m, mh, mt]) : Pr C H' p h t m mh mt hs ts :=
  ⟨x.f.kp k (fun z => n _ z (by simp)) (fun z => n _ z (by simp)) (fun z => n _ z (by simp)), x.m.kp k (fun z => n _ z (by simp)) (fun z => n _ z (by simp)) (fun z => n _ z (by simp)), x.g, x.tk, x.sep⟩
theorem Pr.kp0 {C : Addr} {H H' : Hp} {p h t m mh mt : Addr} {hs ts : List (Option Int)} (x : Pr C H p h t m mh mt hs ts) (k : Kp [] H H') : Pr C H' p h t m mh mt hs ts := x.kp k (fun _ z => by cases z)
theorem taken_out {f : Nat} : ∀ (ks : List Nat) (ts : List (Option Int)) (i : Nat), i ∉ ks → (taken ts ks f)[i]? = ts[i]? := by
  intro ks
  induction ks with
  | nil => intro ts i _; rfl
  | cons k ks ih =>
    intro ts i h
    have h2 : ¬ i = k ∧ i ∉ ks := by simpa using h
    exact (ih _ i h2.2).trans (List.getElem?_set_ne (Ne.symm h2.1))
theorem ground_stays {hs ts : List (Option Int)} (w : Wf hs ts) (g : ts[0]? = some none) {f : Nat} (hf : 0 < f) : (taken ts (fin hs ts f) f)[0]? = some none := by
  rw [taken_out]
  · exact g
  · intro h
    unfold fin at h
    have h2 := of_decide_eq_true (List.mem_filter.mp h).2
    rw [row_root w] at h2
    simp at h2; omega
theorem and_if {c d : Bool} {X A B : Prop} (hX : (if d = true then A else B) → X) (h1 : c = true → d = true → A) (h2 : (c && d) = false → B) : if c = true then X else (if false = true then A else B) := by
  cases c with
  | false => exact iteF (iteF (h2 rfl))
  | true =>
    refine iteT (hX ?_)
    cases d with
    | false => exact iteF (h2 rfl)
    | true => exact iteT (h1 rfl rfl)
theorem or_no {c d : Bool} {X A B : Prop} (hX : (if d = true then A else B) → X) (hc : c = false) (hd : d = false) (h : B) : if c = true then (if true = true then A else B) else X := by
  subst hc hd
  exact iteF (hX (iteF h))
def pnint (n : Nat) : PyData := .int (n : Int)
theorem shw_nints {K : PySem.W.Frag} {l : Addr} {xs : List Nat} {H : Hp} (e : H l = some (.lst (xs.map nint))) (hx : ∀ x ∈ xs, x < 10000) (hl : xs.length ≤ 10000) : Shw K H (.ref l) (.list (xs.map pnint)) := by
  refine shw_at (.lst (SqL.of e) (dp_nint K H xs)) ?_ ?_ ?_
  · simp only [okD]
    refine okDs_of fun d hd => ?_
    obtain ⟨x, h, rfl⟩ := List.mem_map.mp hd
    have := hx x h
    have e1 : (10 : Nat) ^ 38 = 100000000000000000000000000000000000000 := by decide
    simp only [pnint, okD, decide_eq_true_eq, e1]; omega
  · simp only [PyData.bulk]
    rw [bulk_flat fun d hd => by obtain ⟨x, _, rfl⟩ := List.mem_map.mp hd; simp only [pnint, PyData.bulk], List.length_map]; omega
  · simp only [PyData.depth]
    rw [depth_flat fun d hd => by obtain ⟨x, _, rfl⟩ := List.mem_map.mp hd; simp only [pnint, PyData.depth]]; omega
theorem stand_lt {ts : List (Option Int)} {x : Nat} (h : x ∈ stand ts) : x < ts.length := (List.getElem?_eq_some_iff.mp (mem_stand.mp h)).1
theorem fin_lt {hs ts : List (Option Int)} {f x : Nat} (h : x ∈ fin hs ts f) : x < ts.length := (List.getElem?_eq_some_iff.mp (fin_stand h)).1
section
variable {P : Program} {w : World} {K : PySem.W.Frag} {mg : Str → Option Value} {base : Heap}
theorem ok_one (T : Tx K mg) {fd : FuncData} (F : Fun K "_law_one" "_law_one" s__law_one (He.ga K "_law_one") fd) (c__law_take : Cal P w K mg base 1 "_law_take" spTake) : FnG P w K mg base 2 (He.ga K "_law_one") fd ["_law_box_here", "_law_some"] spOne := by
  refine FnG.of F sc__law_one (fun vs H Q E h => ?_) (fun cdv A outer s H vs Q E hr h => ?_)
  · obtain ⟨b, l, n, xs, rfl, _⟩ := h; rfl
  · obtain ⟨b, l, n, xs, rfl, hb, hn, hl, nbl, hx, hlen, q⟩ := h
    have pos : 0 < xs.length := List.length_pos_iff.mpr hx
    refine ⟨_, pss_cons (ps_set (i := 2) sc__law_one.nd rfl (by first | exact Or.inl rfl | exact Or.inr rfl) (gc c__law_take (hr.mono (by decide)) takes0 (pa_cons (pv 0) (pa_cons (pe_int) (pa_nil)))))
      (pss_cons (ps_set (i := 3) sc__law_one.nd rfl (by first | exact Or.inl rfl | exact Or.inr rfl) (gc c__law_take (hr.mono (by decide)) takes0 (pa_cons (pv 0) (pa_cons (pe_callB (klen K) (by rfl) T.z_len PySem.boot_len (pa_cons (pv 1) (pa_nil))) (pa_nil)))))
      (pss_one (ps_ret (pe_ix (kixL K) (pv 1) (pe_ix (kixL K) (pe_lst (pa_cons (pv 3) (pa_cons (pe_op op_sub (pe_callB (klen K) (by rfl) T.z_len PySem.boot_len (pa_cons (pv 1) (pa_nil))) (pe_int)) (pa_cons (pv 3) (pa_nil))))) (pv 2) (fun _ _ => rfl)) (fun _ _ => rfl))))), ?_⟩
    refine ⟨_, rfl, b, n, 3, rfl, hb, by omega, by decide, by decide, fun H1 way k1 hb1 w0 w1 => ?_⟩
    have hl1 : H1 l = some (.lst (xs.map nint)) := (k1 l nbl.symm).trans hl
    refine ⟨_, rfl, _, rfl, l, _, rfl, .inl (SqL.of hl1), b, n + 1, _, rfl, hb1, by omega, (by rw [List.length_map]; omega), (by rw [List.length_map]; exact Int.lt_of_le_of_lt (by omega : (xs.length : Int) ≤ 1000) (by decide)), fun H2 d k2 hb2 d0 d1 => ?_⟩
    rw [List.length_map] at d1
    have hl2 : H2 l = some (.lst (xs.map nint)) := (k2 l nbl.symm).trans hl1
    obtain ⟨z, hz, z0, z1⟩ : ∃ z : Int, atI [V.int d, V.int (((xs.map nint).length : Nat) - 1), V.int d] way = some (.int z) ∧ 0 ≤ z ∧ z < xs.length := by
      have hw : way = 0 ∨ way = 1 ∨ way = 2 := by omega
      rcases hw with rfl | rfl | rfl
      · exact ⟨d, rfl, d0, d1⟩
      · exact ⟨_, rfl, by rw [List.length_map]; omega, by rw [List.length_map]; omega⟩
      · exact ⟨d, rfl, d0, d1⟩
    obtain ⟨x, hxm, ex⟩ := pick z0 z1
    refine ⟨_, rfl, _, rfl, _, rfl, l, _, rfl, .inl (SqL.of hl2), _, _, rfl, rfl, _, rfl, (by show 3 ≤ sizeLine; decide), fun r hr2 => ?_⟩
    have nlr : l ≠ r := ne_of_none hl2 hr2
    refine ⟨_, rfl, r, _, _, _, rfl, rfl, SqL.of upd_same, hz, l, _, _, _, rfl, rfl, SqL.of ((upd_ne nlr).trans hl2), ex, ?_⟩
    obtain ⟨x', y', c', eb, _⟩ := id hb2
    refine q _ x hxm (fun a o ea ha => ?_) ((hb2.more (by omega)).kp (S := []) (fun a o ea _ => (upd_ne (ne_of_none ea hr2)).trans ea) (by simp))
    have := (k1.kp.trans k2.kp) a o ea ha
    exact (upd_ne (ne_of_none this hr2)).trans this
end

end Lw
namespace Lw
open PySem PySem.Spec L2 FG
open PyProof.Rows hiding St
theorem inV_int (z : Int) (xs : List Nat) : inV (.int z) (xs.map nint) = decide (0 ≤ z ∧ z.toNat ∈ xs) := by
  unfold inV
  rw [Bool.eq_iff_iff, List.any_eq_true, decide_eq_true_eq]
  constructor
  · rintro ⟨y, hy, e⟩
    obtain ⟨n, hn, rfl⟩ := List.mem_map.mp hy
    have e2 : ((n : Int) == z) = true := e
    have : (n : Int) = z := eq_of_beq e2
    subst this
    exact ⟨by omega, by simpa using hn⟩
  · rintro ⟨h0, h⟩
    refine ⟨nint z.toNat, List.mem_map.mpr ⟨_, h, rfl⟩, ?_⟩
    show ((z.toNat : Int) == z) = true
    rw [Int.toNat_of_nonneg h0]; simp
def denc : Option Int → PyData
  | none => .none
  | some i => .int i
theorem dp_encs (K : PySem.W.Frag) (H : Hp) : ∀ xs : List (Option Int), DpAll K H (xs.map enc) (xs.map denc)
  | [] => .nil
  | none :: xs => .cons .non (dp_encs K H xs)
  | some i :: xs => .cons (.int i) (dp_encs K H xs)
theorem shw_encs {K : PySem.W.Frag} {l : Addr} {xs : List (Option Int)} {H : Hp} (e : H l = some (.lst (xs.map enc))) (hx : TOk xs) (hl : xs.length ≤ 10000) : Shw K H (.ref l) (.list (xs.map denc)) := by
  refine shw_at (.lst (SqL.of e) (dp_encs K H xs)) ?_ ?_ ?_
  · simp only [okD]
    refine okDs_of fun d hd => ?_
    obtain ⟨x, h, rfl⟩ := List.mem_map.mp hd
    cases x with
    | none => simp only [denc, okD]
    | some i =>
      have := hx i h
      simp only [denc, okD, decide_eq_true_eq]
      exact Nat.lt_trans this (by decide)
  · simp only [PyData.bulk]
    rw [bulk_flat fun d hd => by obtain ⟨x, _, rfl⟩ := List.mem_map.mp hd; cases x <;> simp only [denc, PyData.bulk], List.length_map]; omega
  · simp only [PyData.depth]
    rw [depth_flat fun d hd => by obtain ⟨x, _, rfl⟩ := List.mem_map.mp hd; cases x <;> simp only [denc, PyData.depth]]; omega

end Lw
namespace Lw
open PySem PySem.Spec L2 FG
open PyProof.Rows hiding St
/-- the script: locked, or an object of the module -/
def Scr (K : PySem.W.Frag) (H : Hp) (a : Addr) (ns : List Int) : Prop := (∃ o, H a = some (.frz o (.lst (ns.map V.int)))) ∨ ∀ H', SqL K H' a (ns.map V.int)
theorem Scr.sq {K : PySem.W.Frag} {H : Hp} {a : Addr} {ns : List Int} (x : Scr K H a ns) : SqL K H a (ns.map V.int) := by
  rcases x with ⟨o, z⟩ | z
  · exact .inl (.inr ⟨o, z⟩)
  · exact z H
theorem Scr.of {K : PySem.W.Frag} {H : Hp} {a : Addr} {ns : List Int} (hO : Only H) (h : SqL K H a (ns.map V.int)) : Scr K H a ns := by
  rcases h with (z | ⟨o, z⟩) | z
  · rcases hO a with y | ⟨o, xs, y⟩
    · rw [y] at z; cases z
    · rw [y] at z; cases z
  · exact .inl ⟨o, z⟩
  · exact .inr fun H' => .inr z
theorem Scr.kp {K : PySem.W.Frag} {S : List Addr} {H H' : Hp} {a : Addr} {ns : List Int} (x : Scr K H a ns) (k : Kp S H H') (hS : ∀ b ∈ S, ∀ o u, H b ≠ some (.frz o u)) : Scr K H' a ns := by
  rcases x with ⟨o, z⟩ | z
  · exact .inl ⟨o, k a _ z fun c => hS a c _ _ z⟩
  · exact .inr z
theorem Scr.kp0 {K : PySem.W.Frag} {H H' : Hp} {a : Addr} {ns : List Int} (x : Scr K H a ns) (k : Kp [] H H') : Scr K H' a ns := x.kp k fun _ z => by cases z
structure Ad where
  (p h t m mh mt : Addr)
def Ad.all (x : Ad) : List Addr := [x.p, x.h, x.t, x.m, x.mh, x.mt]
/-- both tell the same frames, and these are so -/
def PrA (G : List (Option Int) → List (Option Int) → Prop) (C : Addr) (H : Hp) (x : Ad) : Prop := ∃ hs ts, Pr C H x.p x.h x.t x.m x.mh x.mt hs ts ∧ G hs ts
/-- nothing at these is locked, all stand -/
theorem PrA.std {G : List (Option Int) → List (Option Int) → Prop} {C : Addr} {H : Hp} {x : Ad} (r : PrA G C H x) : ∀ b ∈ x.all, ∃ o, H b = some o ∧ ∀ ob u, o ≠ .frz ob u := by
  obtain ⟨hs, ts, pr, _⟩ := r
  obtain ⟨dx, fs, e, _⟩ := pr.f.ob
  intro b hb
  simp only [Ad.all, List.mem_cons, List.not_mem_nil, or_false] at hb
  rcases hb with rfl | rfl | rfl | rfl | rfl | rfl
  · exact ⟨_, e, fun _ _ c => by cases c⟩
  · exact ⟨_, pr.f.lh, fun _ _ c => by cases c⟩
  · exact ⟨_, pr.f.lt, fun _ _ c => by cases c⟩
  · exact ⟨_, pr.m.d, fun _ _ c => by cases c⟩
  · exact ⟨_, pr.m.lh, fun _ _ c => by cases c⟩
  · exact ⟨_, pr.m.lt, fun _ _ c => by cases c⟩
theorem PrA.kp {G : List (Option Int) → List (Option Int) → Prop} {C : Addr} {H H' : Hp} {S : List Addr} {x : Ad} (r : PrA G C H x) (k : Kp S H H') (n : ∀ a ∈ S, a ∉ x.all) : PrA G C H' x := by
  obtain ⟨hs, ts, pr, g⟩ := r
  exact ⟨hs, ts, pr.kp k n, g⟩
structure LInv (G : List (Option Int) → List (Option Int) → Prop) (K : PySem.W.Frag) (C : Addr) (H : Hp) (a bl ml : Addr) (ns : List Int) (x y : Ad) : Prop where
  scr : Scr K H a ns
  eb : H bl = some (.lst [.ref x.p, .ref y.p])
  em : H ml = some (.lst [.ref x.m, .ref y.m])
  rx : PrA G C H x
  ry : PrA G C H y
  xy : ∀ b ∈ x.all, b ∉ y.all
  nb : bl ∉ x.all ∧ bl ∉ y.all
  nm : ml ∉ x.all ∧ ml ∉ y.all
theorem LInv.kp {G : List (Option Int) → List (Option Int) → Prop} {K : PySem.W.Frag} {C : Addr} {H H' : Hp} {a bl ml : Addr} {ns : List Int} {x y : Ad} {S : List Addr} (v : LInv G K C H a bl ml ns x y) (k : Kp S H H') (hS : ∀ b ∈ S, H b = none) : LInv G K C H' a bl ml ns x y := by
  have out : ∀ b o, H b = some o → b ∉ S := fun b o e c => by rw [hS b c] at e; cases e
  refine ⟨v.scr.kp k (fun b hb o u c => by rw [hS b hb] at c; cases c), k _ _ v.eb (out _ _ v.eb), k _ _ v.em (out _ _ v.em), v.rx.kp k fun b hb c => ?_, v.ry.kp k fun b hb c => ?_, v.xy, v.nb, v.nm⟩
  · obtain ⟨o, e, _⟩ := v.rx.std b c; exact out b o e hb
  · obtain ⟨o, e, _⟩ := v.ry.std b c; exact out b o e hb
theorem LInv.kp0 {G : List (Option Int) → List (Option Int) → Prop} {K : PySem.W.Frag} {C : Addr} {H H' : Hp} {a bl ml : Addr} {ns : List Int} {x y : Ad} (v : LInv G K C H a bl ml ns x y) (k : Kp [] H H') : LInv G K C H' a bl ml ns x y := v.kp k fun _ z => by cases z
/-- a deed on the first -/
theorem LInv.fst {G : List (Option Int) → List (Option Int) → Prop} {K : PySem.W.Frag} {C : Addr} {H H' : Hp} {a bl ml b : Addr} {ns : List Int} {x y : Ad} (v : LInv G K C H a bl ml ns x y) (k : Kp [b, x.h, x.t, x.mh, x.mt] H H') (hb : ∀ o u, H b ≠ some (.frz o u)) (nb : b ≠ bl ∧ b ≠ ml ∧ b ∉ y.all) (r : PrA G C H' x) : LInv G K C H' a bl ml ns x y := by
  have sub : ∀ c ∈ [x.h, x.t, x.mh, x.mt], c ∈ x.all := fun c hc => by
    simp only [List.mem_cons, List.not_mem_nil, or_false] at hc
    simp only [Ad.all, List.mem_cons, List.not_mem_nil, or_false]
    rcases hc with rfl | rfl | rfl | rfl <;> simp
  have out : ∀ c, c ≠ b → c ∉ x.all → c ∉ [b, x.h, x.t, x.mh, x.mt] := fun c h1 h2 h3 => by
    rcases List.mem_cons.mp h3 with z | z
    · exact h1 z
    · exact h2 (sub c z)
  refine ⟨v.scr.kp k fun c hc o u e => ?_, k _ _ v.eb (out _ nb.1.symm v.nb.1), k _ _ v.em (out _ nb.2.1.symm v.nm.1), r, v.ry.kp k fun c hc e => ?_, v.xy, v.nb, v.nm⟩
  · rcases List.mem_cons.mp hc with z | z
    · subst z; exact hb o u e
    · obtain ⟨o2, e2, n2⟩ := v.rx.std c (sub c z)
      rw [e2] at e; exact n2 o u (Option.some.inj e)
  · rcases List.mem_cons.mp hc with z | z
    · subst z; exact nb.2.2 e
    · exact v.xy c (sub c z) e
/-- b is none of these -/
def Apart (b bl ml : Addr) (x y : Ad) : Prop := b ≠ bl ∧ b ≠ ml ∧ b ∉ x.all ∧ b ∉ y.all
theorem LInv.apart {G : List (Option Int) → List (Option Int) → Prop} {K : PySem.W.Frag} {C : Addr} {H : Hp} {a bl ml b : Addr} {ns : List Int} {x y : Ad} (v : LInv G K C H a bl ml ns x y) (hb : H b = none) : Apart b bl ml x y :=
  ⟨(ne_of_none v.eb hb).symm, (ne_of_none v.em hb).symm, (fun c => by obtain ⟨o, e, _⟩ := v.rx.std b c; rw [hb] at e; cases e), (fun c => by obtain ⟨o, e, _⟩ := v.ry.std b c; rw [hb] at e; cases e)⟩
theorem LInv.kpb {G : List (Option Int) → List (Option Int) → Prop} {K : PySem.W.Frag} {C : Addr} {H H' : Hp} {a bl ml b : Addr} {ns : List Int} {x y : Ad} (v : LInv G K C H a bl ml ns x y) (k : Kp [b] H H') (hb : ∀ o u, H b ≠ some (.frz o u)) (n : Apart b bl ml x y) : LInv G K C H' a bl ml ns x y := by
  obtain ⟨n1, n2, n3, n4⟩ := n
  exact ⟨v.scr.kp k (fun c hc o u e => hb o u (by rw [List.mem_singleton.mp hc] at e; exact e)), k _ _ v.eb (by simpa using n1.symm), k _ _ v.em (by simpa using n2.symm), v.rx.kp k (fun c hc => by rw [List.mem_singleton.mp hc]; exact n3), v.ry.kp k (fun c hc => by rw [List.mem_singleton.mp hc]; exact n4), v.xy, v.nb, v.nm⟩
theorem box_nf {H : Hp} {b : Addr} {n : Int} (x : BoxAt H b n) : ∀ o u, H b ≠ some (.frz o u) := by
  obtain ⟨_, _, _, e, _⟩ := x
  intro o u c; rw [e] at c; cases c
theorem made_kp {H H1 : Hp} {p d : Addr} {u v : HO} (hp : H p = none) (hd : H d = none) (k : Kp [p] (upd (upd H d u) p v) H1) : Kp [] H H1 := fun b o e _ =>
  k b o (by rw [upd_ne (ne_of_none e hp), upd_ne (ne_of_none e hd)]; exact e) (by simpa using ne_of_none e hp)
theorem made_free {H : Hp} {p d b : Addr} {u v : HO} (n : upd (upd H d u) p v b = none) (np : b ≠ p) : H b = none := by
  rw [upd_ne np] at n
  by_cases c : b = d
  · rw [c, upd_same] at n; cases n
  · rw [upd_ne c] at n; exact n
def Std (H : Hp) (b : Addr) : Prop := ∃ o, H b = some o
theorem Std.kp0 {H H' : Hp} {b : Addr} (s : Std H b) (k : Kp [] H H') : Std H' b := let ⟨o, e⟩ := s; ⟨o, k b o e (by simp)⟩
theorem Std.ne {H : Hp} {b c : Addr} (s : Std H b) (n : H c = none) : b ≠ c := let ⟨_, e⟩ := s; ne_of_none e n
theorem LInv.snd {G : List (Option Int) → List (Option Int) → Prop} {K : PySem.W.Frag} {C : Addr} {H H' : Hp} {a bl ml b : Addr} {ns : List Int} {x y : Ad} (v : LInv G K C H a bl ml ns x y) (k : Kp [b, y.h, y.t, y.mh, y.mt] H H') (hb : ∀ o u, H b ≠ some (.frz o u)) (nb : b ≠ bl ∧ b ≠ ml ∧ b ∉ x.all) (r : PrA G C H' y) : LInv G K C H' a bl ml ns x y := by
  have sub : ∀ c ∈ [y.h, y.t, y.mh, y.mt], c ∈ y.all := fun c hc => by
    simp only [List.mem_cons, List.not_mem_nil, or_false] at hc
    simp only [Ad.all, List.mem_cons, List.not_mem_nil, or_false]
    rcases hc with rfl | rfl | rfl | rfl <;> simp
  have out : ∀ c, c ≠ b → c ∉ y.all → c ∉ [b, y.h, y.t, y.mh, y.mt] := fun c h1 h2 h3 => by
    rcases List.mem_cons.mp h3 with z | z
    · exact h1 z
    · exact h2 (sub c z)
  refine ⟨v.scr.kp k fun c hc o u e => ?_, k _ _ v.eb (out _ nb.1.symm v.nb.2), k _ _ v.em (out _ nb.2.1.symm v.nm.2), v.rx.kp k fun c hc e => ?_, r, v.xy, v.nb, v.nm⟩
  · rcases List.mem_cons.mp hc with z | z
    · subst z; exact hb o u e
    · obtain ⟨o2, e2, n2⟩ := v.ry.std c (sub c z)
      rw [e2] at e; exact n2 o u (Option.some.inj e)
  · rcases List.mem_cons.mp hc with z | z
    · subst z; exact nb.2.2 e
    · exact v.xy c e (sub c z)
/-- two made Frames and two dicts: where the law begins -/
theorem lv_start {G : List (Option Int) → List (Option Int) → Prop} {K : PySem.W.Frag} {C : Addr} {H H1 H2 H3 H4 H5 H6 : Hp} {a bl ml p0 h0 t0 p1 h1 t1 m0 mh0 mt0 m1 mh1 mt1 : Addr} {ns : List Int} (hG : G [none] [none]) (scr : Scr K H a ns)
    (K1 : Kp [] H H1) (fr0 : FrAt C H1 p0 h0 t0 [none] [none]) (hp1 : H1 p1 = none) (hh1' : H1 h1 = none) (ht1' : H1 t1 = none) (K2 : Kp [] H1 H2) (fr1 : FrAt C H2 p1 h1 t1 [none] [none]) (hbl : H2 bl = none)
    (K3 : Kp [] H2 H3) (B3 : H3 bl = some (.lst [.ref p0, .ref p1])) (hm0 : H3 m0 = none) (hmh0 : H3 mh0 = none) (hmt0 : H3 mt0 = none) (k4 : Kp [] H3 H4) (md0 : ModAt H4 m0 mh0 mt0 [none] [none])
    (hm1 : H4 m1 = none) (hmh1 : H4 mh1 = none) (hmt1 : H4 mt1 = none) (k5 : Kp [] H4 H5) (md1 : ModAt H5 m1 mh1 mt1 [none] [none]) (hml : H5 ml = none) (K6 : Kp [] H5 H6) (B6 : H6 ml = some (.lst [.ref m0, .ref m1])) :
    LInv G K C H6 a bl ml ns ⟨p0, h0, t0, m0, mh0, mt0⟩ ⟨p1, h1, t1, m1, mh1, mt1⟩ := by
  have K35 : Kp [] H3 H5 := k4.trans k5
  have K25 : Kp [] H2 H5 := K3.trans K35
  have K15 : Kp [] H1 H5 := K2.trans K25
  have frS : ∀ {H' : Hp} {p h t : Addr}, FrAt C H' p h t [none] [none] → ∀ b ∈ [p, h, t], Std H' b := fun f b hb => by
    obtain ⟨dx, fs, e, _⟩ := f.ob
    simp only [List.mem_cons, List.not_mem_nil, or_false] at hb
    rcases hb with rfl | rfl | rfl
    · exact ⟨_, e⟩
    · exact ⟨_, f.lh⟩
    · exact ⟨_, f.lt⟩
  have mdS : ∀ {H' : Hp} {m h t : Addr}, ModAt H' m h t [none] [none] → ∀ b ∈ [m, h, t], Std H' b := fun f b hb => by
    simp only [List.mem_cons, List.not_mem_nil, or_false] at hb
    rcases hb with rfl | rfl | rfl
    · exact ⟨_, f.d⟩
    · exact ⟨_, f.lh⟩
    · exact ⟨_, f.lt⟩
  have a0 := frS fr0
  have a1 := frS fr1
  have c0 := mdS md0
  have c1 := mdS md1
  have n1 : ∀ b ∈ [p1, h1, t1], H1 b = none := fun b hb => by
    simp only [List.mem_cons, List.not_mem_nil, or_false] at hb
    rcases hb with rfl | rfl | rfl <;> assumption
  have n3 : ∀ b ∈ [m0, mh0, mt0], H3 b = none := fun b hb => by
    simp only [List.mem_cons, List.not_mem_nil, or_false] at hb
    rcases hb with rfl | rfl | rfl <;> assumption
  have n4 : ∀ b ∈ [m1, mh1, mt1], H4 b = none := fun b hb => by
    simp only [List.mem_cons, List.not_mem_nil, or_false] at hb
    rcases hb with rfl | rfl | rfl <;> assumption
  have spl : ∀ {p h t m mh mt b : Addr}, b ∈ (Ad.mk p h t m mh mt).all → b ∈ [p, h, t] ∨ b ∈ [m, mh, mt] := fun hb => by
    simp only [Ad.all, List.mem_cons, List.not_mem_nil, or_false] at hb ⊢
    rcases hb with z | z | z | z | z | z <;> simp [z]
  have d1 : ∀ b ∈ [p0, h0, t0], ∀ c ∈ [p1, h1, t1], b ≠ c := fun b hb c hc => (a0 b hb).ne (n1 c hc)
  have d2 : ∀ b ∈ [p0, h0, t0], ∀ c ∈ [m0, mh0, mt0], b ≠ c := fun b hb c hc => ((a0 b hb).kp0 (K2.trans K3)).ne (n3 c hc)
  have d3 : ∀ b ∈ [p0, h0, t0], ∀ c ∈ [m1, mh1, mt1], b ≠ c := fun b hb c hc => ((a0 b hb).kp0 ((K2.trans K3).trans k4)).ne (n4 c hc)
  have d4 : ∀ b ∈ [p1, h1, t1], ∀ c ∈ [m0, mh0, mt0], b ≠ c := fun b hb c hc => ((a1 b hb).kp0 K3).ne (n3 c hc)
  have d5 : ∀ b ∈ [p1, h1, t1], ∀ c ∈ [m1, mh1, mt1], b ≠ c := fun b hb c hc => ((a1 b hb).kp0 (K3.trans k4)).ne (n4 c hc)
  have d6 : ∀ b ∈ [m0, mh0, mt0], ∀ c ∈ [m1, mh1, mt1], b ≠ c := fun b hb c hc => (c0 b hb).ne (n4 c hc)
  have t0k : TOk [none] := fun i hi => by simp at hi
  have r0 : PrA G C H6 ⟨p0, h0, t0, m0, mh0, mt0⟩ := ⟨[none], [none], ⟨fr0.kp0 (K15.trans K6), md0.kp0 (k5.trans K6), rfl, t0k, by
    have e1 := d2 h0 (by simp) mh0 (by simp)
    have e2 := d2 h0 (by simp) mt0 (by simp)
    have e3 := d2 t0 (by simp) mh0 (by simp)
    have e4 := d2 t0 (by simp) mt0 (by simp)
    simp [fr0.ne, md0.ne, e1, e2, e3, e4]⟩, hG⟩
  have r1 : PrA G C H6 ⟨p1, h1, t1, m1, mh1, mt1⟩ := ⟨[none], [none], ⟨fr1.kp0 (K25.trans K6), md1.kp0 K6, rfl, t0k, by
    have e1 := d5 h1 (by simp) mh1 (by simp)
    have e2 := d5 h1 (by simp) mt1 (by simp)
    have e3 := d5 t1 (by simp) mh1 (by simp)
    have e4 := d5 t1 (by simp) mt1 (by simp)
    simp [fr1.ne, md1.ne, e1, e2, e3, e4]⟩, hG⟩
  refine ⟨(((scr.kp0 K1).kp0 K15).kp0 K6), (K35.trans K6) _ _ B3 (by simp), B6, r0, r1, fun b hb hc => ?_, ⟨fun hb => ?_, fun hb => ?_⟩, ⟨fun hb => ?_, fun hb => ?_⟩⟩
  · rcases spl hb with z | z <;> rcases spl hc with y | y
    · exact d1 _ z _ y rfl
    · exact d3 _ z _ y rfl
    · exact d4 _ y _ z rfl
    · exact d6 _ z _ y rfl
  · rcases spl hb with z | z
    · exact ((a0 _ z).kp0 K2).ne hbl rfl
    · exact Std.ne ⟨_, B3⟩ (n3 _ z) rfl
  · rcases spl hb with z | z
    · exact (a1 _ z).ne hbl rfl
    · exact Std.ne ⟨_, k4 _ _ B3 (by simp)⟩ (n4 _ z) rfl
  · rcases spl hb with z | z
    · exact ((a0 _ z).kp0 K15).ne hml rfl
    · exact ((c0 _ z).kp0 k5).ne hml rfl
  · rcases spl hb with z | z
    · exact ((a1 _ z).kp0 K25).ne hml rfl
    · exact (c1 _ z).ne hml rfl

end Lw
namespace Lw
open PySem PySem.Spec L2 FG
open PyProof.Rows hiding St
/-- those that stand straight within n -/
def withinL (hs ts : List (Option Int)) (n : Nat) : List Nat := (stand ts).filter fun k => decide (hs[k]? = some (some (n : Int)))
theorem withinL_len (hs ts : List (Option Int)) (n : Nat) : (withinL hs ts n).length ≤ ts.length := Nat.le_trans (List.length_filter_le _ _) (stand_len ts)
theorem withinL_lt {hs ts : List (Option Int)} {n x : Nat} (h : x ∈ withinL hs ts n) : x < ts.length := stand_lt (List.mem_filter.mp h).1
theorem row_ind {hs ts : List (Option Int)} (w : Wf hs ts) {P : Nat → Prop} (h0 : P 0) (hs' : ∀ i j, 0 < i → i < hs.length → hs[i]? = some (some ((j : Nat) : Int)) → j < i → P j → P i) : ∀ i, i < hs.length → P i := by
  intro i
  induction i using Nat.strongRecOn with
  | _ i ih =>
    intro hi
    by_cases z : i = 0
    · subst z; exact h0
    · obtain ⟨j, e, hj⟩ := w.up i (by omega) hi
      exact hs' i j (by omega) hi e hj (ih j hj (by omega))
theorem row_self {hs ts : List (Option Int)} (w : Wf hs ts) {i : Nat} (hi : i < hs.length) : i ∈ rowW hs i := by
  refine row_ind w (P := fun i => i ∈ rowW hs i) ?_ (fun i j _ _ e hj _ => ?_) i hi
  · rw [row_root w]; simp
  · rw [row_up e hj]; simp
theorem row_sub {hs ts : List (Option Int)} (w : Wf hs ts) {i : Nat} (hi : i < hs.length) : ∀ r ∈ rowW hs i, ∀ s ∈ rowW hs r, s ∈ rowW hs i := by
  refine row_ind w (P := fun i => ∀ r ∈ rowW hs i, ∀ s ∈ rowW hs r, s ∈ rowW hs i) ?_ (fun i j _ _ e hj ih => ?_) i hi
  · intro r hr s hs'
    rw [row_root w] at hr
    have : r = 0 := by simpa using hr
    subst this; exact hs'
  · intro r hr s hs'
    have hr2 := hr
    rw [row_up e hj] at hr2 ⊢
    rcases List.mem_append.mp hr2 with z | z
    · exact List.mem_append_left _ (ih r z s hs')
    · have : r = i := by simpa using z
      subst this
      rw [row_up e hj] at hs'; exact hs'
theorem row_app {hs ts : List (Option Int)} (w : Wf hs ts) {x : Option Int} {i : Nat} (hi : i < hs.length) : rowW (hs ++ [x]) i = rowW hs i := by
  refine row_ind w (P := fun i => rowW (hs ++ [x]) i = rowW hs i) ?_ (fun i j h0 hi2 e hj ih => ?_) i hi
  · have e0 : (hs ++ [x])[0]? = some none := by rw [List.getElem?_append_left w.pos]; exact w.root
    rw [row_root w, rowW, e0]
  · have e1 : (hs ++ [x])[i]? = some (some (j : Int)) := by rw [List.getElem?_append_left hi2]; exact e
    rw [row_up e1 hj, row_up e hj, ih]
theorem mem_fin {hs ts : List (Option Int)} {f k : Nat} : k ∈ fin hs ts f ↔ ts[k]? = some none ∧ f ∈ rowW hs k := by
  unfold fin
  rw [List.mem_filter, List.mem_reverse, mem_stand, decide_eq_true_eq]
theorem taken_in {f : Nat} : ∀ (ks : List Nat) (ts : List (Option Int)) (k : Nat), k ∈ ks → k < ts.length → (taken ts ks f)[k]? = some (some (f : Int)) := by
  intro ks
  induction ks with
  | nil => intro ts k h; cases h
  | cons j ks ih =>
    intro ts k h hk
    show (taken (ts.set j (some (f : Int))) ks f)[k]? = _
    by_cases c : k ∈ ks
    · exact ih _ k c (by simpa using hk)
    · have e : k = j := by
        rcases List.mem_cons.mp h with z | z
        · exact z
        · exact absurd z c
      subst e
      rw [taken_out ks _ k c, List.getElem?_set_self hk]
/-- who stands stands with its whole row; what was ended by one lies within it -/
structure Hg (hs ts : List (Option Int)) : Prop where
  wf : Wf hs ts
  up : ∀ f, ts[f]? = some none → ∀ r ∈ rowW hs f, ts[r]? = some none
  by_ : ∀ f b, ts[f]? = some (some b) → ∃ k : Nat, b = (k : Int) ∧ k ∈ rowW hs f ∧ ts[k]? = some (some b)
theorem hg0 : Hg [none] [none] := by
  refine ⟨wf0, fun f hf r hr => ?_, fun f b hb => ?_⟩
  · have h1 : f < 1 := (List.getElem?_eq_some_iff.mp hf).1
    have h2 : f = 0 := by omega
    subst h2
    rw [row_root wf0] at hr
    have : r = 0 := by simpa using hr
    subst this; exact hf
  · have h1 : f < 1 := (List.getElem?_eq_some_iff.mp hb).1
    have h2 : f = 0 := by omega
    subst h2
    simp at hb
theorem Hg.begun {hs ts : List (Option Int)} (g : Hg hs ts) {f : Nat} (hf : ts[f]? = some none) (h100 : hs.length ≤ 100) : Hg (hs ++ [some (f : Int)]) (ts ++ [none]) := by
  have w := g.wf
  have wl := w.len
  have fl : f < ts.length := (List.getElem?_eq_some_iff.mp hf).1
  have w2 := w.begun (f := f) (by omega) h100
  have en : (hs ++ [some (f : Int)])[hs.length]? = some (some (f : Int)) := by simp
  have rn : rowW (hs ++ [some (f : Int)]) hs.length = rowW hs f ++ [hs.length] := by rw [row_up en (by omega), row_app w (by omega)]
  have app : ∀ {r : Nat}, ts[r]? = some none → (ts ++ [none])[r]? = some none := fun {r} h => by
    rw [List.getElem?_append_left (List.getElem?_eq_some_iff.mp h).1]; exact h
  have last : (ts ++ [none])[hs.length]? = some none := by rw [← wl]; simp
  refine ⟨w2, fun k hk r hr => ?_, fun k b hb => ?_⟩
  · by_cases c : k < hs.length
    · rw [row_app w c] at hr
      rw [List.getElem?_append_left (by omega)] at hk
      exact app (g.up k hk r hr)
    · have hk2 := (List.getElem?_eq_some_iff.mp hk).1
      have e : k = hs.length := by simp at hk2; omega
      subst e
      rw [rn] at hr
      rcases List.mem_append.mp hr with z | z
      · exact app (g.up f hf r z)
      · have : r = hs.length := by simpa using z
        subst this; exact last
  · by_cases c : k < hs.length
    · rw [List.getElem?_append_left (by omega)] at hb
      obtain ⟨j, e, h1, h2⟩ := g.by_ k b hb
      refine ⟨j, e, by rw [row_app w c]; exact h1, ?_⟩
      rw [List.getElem?_append_left (List.getElem?_eq_some_iff.mp h2).1]; exact h2
    · have hk2 := (List.getElem?_eq_some_iff.mp hb).1
      have e : k = hs.length := by simp at hk2; omega
      subst e
      rw [last] at hb; cases hb
theorem Hg.ended {hs ts : List (Option Int)} (g : Hg hs ts) {f : Nat} (hf : ts[f]? = some none) : Hg hs (taken ts (fin hs ts f) f) := by
  have w := g.wf
  have wl := w.len
  have fl : f < ts.length := (List.getElem?_eq_some_iff.mp hf).1
  have ff : f ∈ fin hs ts f := mem_fin.mpr ⟨hf, row_self w (by omega)⟩
  refine ⟨w.taken _ _, fun k hk r hr => ?_, fun k b hb => ?_⟩
  · have kl : k < ts.length := by have := (List.getElem?_eq_some_iff.mp hk).1; rwa [taken_len] at this
    by_cases c : k ∈ fin hs ts f
    · rw [taken_in _ _ _ c kl] at hk; cases hk
    · rw [taken_out _ _ _ c] at hk
      have nf : f ∉ rowW hs k := fun z => c (mem_fin.mpr ⟨hk, z⟩)
      rw [taken_out]
      · exact g.up k hk r hr
      · exact fun z => nf (row_sub w (by omega) r hr f (mem_fin.mp z).2)
  · have kl : k < ts.length := by have := (List.getElem?_eq_some_iff.mp hb).1; rwa [taken_len] at this
    by_cases c : k ∈ fin hs ts f
    · rw [taken_in _ _ _ c kl] at hb
      cases hb
      exact ⟨f, rfl, (mem_fin.mp c).2, taken_in _ _ _ ff fl⟩
    · rw [taken_out _ _ _ c] at hb
      obtain ⟨j, e, h1, h2⟩ := g.by_ k b hb
      refine ⟨j, e, h1, ?_⟩
      rw [taken_out]
      · exact h2
      · exact fun z => by rw [(mem_fin.mp z).1] at h2; cases h2
theorem Hg.alone {hs ts : List (Option Int)} (g : Hg hs ts) {f : Nat} {b : Int} (hf : ts[f]? = some (some b)) : withinL hs ts f = [] := by
  have w := g.wf
  have wl := w.len
  unfold withinL
  rw [List.filter_eq_nil_iff]
  intro k hk z
  have hk2 := mem_stand.mp hk
  have e := of_decide_eq_true z
  have kl := (List.getElem?_eq_some_iff.mp hk2).1
  by_cases k0 : k = 0
  · subst k0; rw [w.root] at e; cases e
  · obtain ⟨j, e2, hj⟩ := w.up k (by omega) (by omega)
    rw [e] at e2
    have ej : f = j := by injection e2 with e2; injection e2 with e2; omega
    subst ej
    have := g.up k hk2 f (by rw [row_up e hj]; exact List.mem_append_left _ (row_self w (by omega)))
    rw [this] at hf; cases hf

end Lw
namespace Lw
open PySem PySem.Spec L2 FG
open PyProof.Rows hiding St
def spInside (C : Addr) : Sp := fun vs H Q _ => ∃ p h t hs ts, ∃ (n : Nat) (o : Option Int), vs = [.ref p, nint n] ∧ FrAt C H p h t hs ts ∧ hs[n]? = some o ∧ Q (enc o) H
def spWithin (C : Addr) : Sp := fun vs H Q _ => ∃ p h t hs ts, ∃ n : Nat, vs = [.ref p, nint n] ∧ FrAt C H p h t hs ts ∧ n < hs.length ∧ ∀ l H', H l = none → Kp [] H H' → H' l = some (.lst ((withinL hs ts n).map nint)) → Q (.ref l) H'
def spLWithin : Sp := fun vs H Q _ => ∃ m mh mt hs ts, ∃ n : Nat, vs = [.ref m, nint n] ∧ ModAt H m mh mt hs ts ∧ Wf hs ts ∧ ∀ l H', H l = none → Kp [] H H' → H' l = some (.lst ((withinL hs ts n).map nint)) → Q (.ref l) H'
theorem scal_enc (o : Option Int) (n : Nat) : scal (enc o) (nint n) = true := by cases o <;> rfl
theorem enc_is (o : Option Int) (n : Nat) : decide (enc o = nint n) = decide (o = some (n : Int)) := by
  cases o with
  | none => simp [enc, nint]
  | some i => simp [enc, nint]
section
variable {P : Program} {w : World} {K : PySem.W.Frag} {mg : Str → Option Value} {base : Heap}
theorem ok_inside (T : Tx K mg) {fd : FuncData} {f : Addr} (F : Fun K "inside" "Frames.inside" s_Frames_inside f fd) (m_need_begun : Met P w K mg base 3 (CF K) "need_begun" (spBeg (CF K))) : FnG P w K mg base 4 f fd ["self", "frame"] (spInside (CF K)) := by
  refine FnG.of F sc_Frames_inside (fun vs H Q E h => ?_) (fun cdv A outer s H vs Q E hr h => ?_)
  · obtain ⟨p, h, t, hs, ts, n, o, rfl, _⟩ := h; rfl
  · obtain ⟨p, h, t, hs, ts, n, o, rfl, fr, hn, q⟩ := h
    obtain ⟨⟨dx, fs, e, ff⟩, lh, lt, ne, wf⟩ := id fr
    have hl := (List.getElem?_eq_some_iff.mp hn).1
    refine ⟨_, pss_cons (ps_expr (gm m_need_begun (hr.mono (by decide)) takes0 (pv 0) (pa_cons (pv 1) (pa_nil))))
      (pss_one (ps_ret (pe_ix (kixL K) (kfld K (pv 0)) (pv 1) (fun _ _ => rfl)))), ?_⟩
    refine ⟨_, rfl, p, dx, fs, rfl, e, ff.no _ (by decide +kernel), _, rfl, p, h, t, hs, ts, n, rfl, fr, hl, ?_⟩
    exact ⟨_, rfl, p, CF K, dx, fs, _, rfl, e, T.c_Frames, T.n_Frames_holders, ff.hh, _, rfl, h, _, _, _, rfl, rfl, SqL.of lh, get_enc hn, q⟩
theorem ok_within (T : Tx K mg) {fd : FuncData} {f : Addr} (F : Fun K "within" "Frames.within" s_Frames_within f fd) (m_need_begun : Met P w K mg base 3 (CF K) "need_begun" (spBeg (CF K))) (m_standing : Met P w K mg base 1 (CF K) "standing" (spStanding (CF K))) :
    FnG P w K mg base 4 f fd ["self", "frame"] (spWithin (CF K)) := by
  refine FnG.of F sc_Frames_within (fun vs H Q E h => ?_) (fun cdv A outer s H vs Q E hr h => ?_)
  · obtain ⟨p, h, t, hs, ts, n, rfl, _⟩ := h; rfl
  · obtain ⟨p, h, t, hs, ts, n, rfl, fr, hn, q⟩ := h
    obtain ⟨⟨dx, fs, e, ff⟩, lh, lt, ne, wf⟩ := id fr
    have ws := wf.small
    have wl := wf.len
    have sl := stand_len ts
    refine ⟨_, pss_cons (ps_expr (gm m_need_begun (hr.mono (by decide)) takes0 (pv 0) (pa_cons (pv 1) (pa_nil))))
      (pss_one (ps_ret (pe_lc (own := [("one", 2)]) (g := gName 2) rfl sc_Frames_within.nd (kiL K (gm0 m_standing (hr.mono (by decide)) takes0 (pv 0))) (blkOk_by (own := [("one", 2)]) (N := ["self", "frame", "one"]) (sc := defScope s_Frames_within) (by decide +kernel)) (fun _ _ _ _ _ => pg_name (i := 2) sc_Frames_within.nd rfl (by first | exact Or.inl rfl | exact Or.inr rfl)) (fun _ _ _ _ _ => by exact pts_one (pt_cmpR op_eq (pe_ix (kixL K) (kfld K (pv 0)) (pv 2) (fun _ _ => rfl)) (pv 1) (by first | exact nomark _ | rfl))) (fun _ _ _ _ _ => by exact pv 2)))), ?_⟩
    refine ⟨_, rfl, p, dx, fs, rfl, e, ff.no _ (by decide +kernel), _, rfl, p, h, t, hs, ts, n, rfl, fr, hn, ?_⟩
    refine ⟨_, rfl, p, dx, fs, rfl, e, ff.no _ (by decide +kernel), p, h, t, hs, ts, rfl, fr, fun l1 H1 hl1 k1 eL1 => ⟨l1, rfl, ⟨_, SqL.of eL1⟩, fun D hD => ?_⟩⟩
    have neD : ∀ b o, H1 b = some o → b ≠ D := fun b o eb => ne_of_none eb hD
    refine lc_list (K := K) (a := l1) (xs := (stand ts).map nint) (fun i H3 => Kp [] H1 H3 ∧ H3 D = some (.lst ((((stand ts).take i).filter fun k => decide (hs[k]? = some (some (n : Int)))).map nint)))
      ⟨fun b o eb _ => (upd_ne (neD b o eb)).trans eb, upd_same⟩ (fun i H3 _ ⟨k3, _⟩ => SqL.of (k3 _ _ eL1 (by simp))) ?_ ?_
    · rintro i x H3 hx ⟨k3, eD⟩
      obtain ⟨k, hr, rfl⟩ : ∃ k, (stand ts)[i]? = some k ∧ x = nint k := by
        rw [List.getElem?_map] at hx
        cases ek : (stand ts)[i]? with
        | none => rw [ek] at hx; cases hx
        | some k => rw [ek] at hx; exact ⟨k, rfl, (Option.some.inj hx).symm⟩
      have hkt : ts[k]? = some none := mem_stand.mp (List.mem_of_getElem? hr)
      have hkl : k < hs.length := by have := (List.getElem?_eq_some_iff.mp hkt).1; omega
      have hi : i < (stand ts).length := (List.getElem?_eq_some_iff.mp hr).1
      have kH : Kp [] H H3 := k1.trans k3
      refine ⟨rfl, _, rfl, p, CF K, dx, fs, _, rfl, kH _ _ e (by simp), T.c_Frames, T.n_Frames_holders, ff.hh, _, rfl, h, _, _, _, rfl, rfl, SqL.of (kH _ _ lh (by simp)), get_enc (List.getElem?_eq_getElem hkl), _, rfl, scal_enc _ _, _, rfl, ?_⟩
      rw [enc_is]
      have hx2 : decide (hs[k]? = some (some (n : Int))) = decide (hs[k] = some (n : Int)) := by rw [List.getElem?_eq_getElem hkl]; simp
      by_cases hc : hs[k] = some (n : Int)
      · rw [decide_eq_true hc] at hx2 ⊢
        refine iteT ⟨_, rfl, _, eD, ?_, fun b o eb hb => ?_, ?_⟩
        · rw [List.length_map]
          exact small1000 (Nat.le_trans (List.length_filter_le _ _) (Nat.le_trans (List.length_take_le _ _) (by omega)))
        · rw [upd_ne (neD b o eb)]; exact k3 b o eb hb
        · rw [upd_same, sel_yes nint (fun k => decide (hs[k]? = some (some (n : Int)))) hr hx2]
      · rw [decide_eq_false hc] at hx2 ⊢
        refine iteF ⟨k3, ?_⟩
        rw [eD, sel_no nint (fun k => decide (hs[k]? = some (some (n : Int)))) hr hx2]
    · rintro H3 ⟨k3, eD⟩
      refine q D H3 (k1.free hD) (k1.trans k3) ?_
      rw [eD, List.length_map, List.take_length]; rfl
theorem ok_lwithin (T : Tx K mg) {fd : FuncData} (F : Fun K "_law_within" "_law_within" s__law_within (He.ga K "_law_within") fd) (c__law_standing : Cal P w K mg base 1 "_law_standing" spLStanding) :
    FnG P w K mg base 2 (He.ga K "_law_within") fd ["_law_model_here", "_law_frame"] spLWithin := by
  refine FnG.of F sc__law_within (fun vs H Q E h => ?_) (fun cdv A outer s H vs Q E hr h => ?_)
  · obtain ⟨m, mh, mt, hs, ts, n, rfl, _⟩ := h; rfl
  · obtain ⟨m, mh, mt, hs, ts, n, rfl, md, wf, q⟩ := h
    have ws := wf.small
    have wl := wf.len
    have sl := stand_len ts
    refine ⟨_, pss_one (ps_ret (pe_lc (own := [("_law_k", 2)]) (g := gName 2) rfl sc__law_within.nd (kiL K (gc c__law_standing (hr.mono (by decide)) takes0 (pa_cons (pv 0) (pa_nil)))) (blkOk_by (own := [("_law_k", 2)]) (N := ["_law_model_here", "_law_frame", "_law_k"]) (sc := defScope s__law_within) (by decide +kernel)) (fun _ _ _ _ _ => pg_name (i := 2) sc__law_within.nd rfl (by first | exact Or.inl rfl | exact Or.inr rfl)) (fun _ _ _ _ _ => by exact pts_one (pt_cmpR op_eq (pe_ix (kixL K) (pe_dget hr.hu (pv 0) (pe_str) (fun _ _ => rfl)) (pv 2) (fun _ _ => rfl)) (pv 1) (by first | exact nomark _ | rfl))) (fun _ _ _ _ _ => by exact pv 2))), ?_⟩
    refine ⟨_, rfl, m, mh, mt, hs, ts, rfl, md, by omega, fun l1 H1 hl1 k1 eL1 => ⟨l1, rfl, ⟨_, SqL.of eL1⟩, fun D hD => ?_⟩⟩
    have neD : ∀ b o, H1 b = some o → b ≠ D := fun b o eb => ne_of_none eb hD
    refine lc_list (K := K) (a := l1) (xs := (stand ts).map nint) (fun i H3 => Kp [] H1 H3 ∧ H3 D = some (.lst ((((stand ts).take i).filter fun k => decide (hs[k]? = some (some (n : Int)))).map nint)))
      ⟨fun b o eb _ => (upd_ne (neD b o eb)).trans eb, upd_same⟩ (fun i H3 _ ⟨k3, _⟩ => SqL.of (k3 _ _ eL1 (by simp))) ?_ ?_
    · rintro i x H3 hx ⟨k3, eD⟩
      obtain ⟨k, hr, rfl⟩ : ∃ k, (stand ts)[i]? = some k ∧ x = nint k := by
        rw [List.getElem?_map] at hx
        cases ek : (stand ts)[i]? with
        | none => rw [ek] at hx; cases hx
        | some k => rw [ek] at hx; exact ⟨k, rfl, (Option.some.inj hx).symm⟩
      have hkt : ts[k]? = some none := mem_stand.mp (List.mem_of_getElem? hr)
      have hkl : k < hs.length := by have := (List.getElem?_eq_some_iff.mp hkt).1; omega
      have hi : i < (stand ts).length := (List.getElem?_eq_some_iff.mp hr).1
      have md3 := md.kp0 (k1.trans k3)
      refine ⟨rfl, _, rfl, m, _, rfl, md3.getH, _, rfl, mh, _, _, _, rfl, rfl, SqL.of md3.lh, get_enc (List.getElem?_eq_getElem hkl), _, rfl, scal_enc _ _, _, rfl, ?_⟩
      rw [enc_is]
      have hx2 : decide (hs[k]? = some (some (n : Int))) = decide (hs[k] = some (n : Int)) := by rw [List.getElem?_eq_getElem hkl]; simp
      by_cases hc : hs[k] = some (n : Int)
      · rw [decide_eq_true hc] at hx2 ⊢
        refine iteT ⟨_, rfl, _, eD, ?_, fun b o eb hb => ?_, ?_⟩
        · rw [List.length_map]
          exact small1000 (Nat.le_trans (List.length_filter_le _ _) (Nat.le_trans (List.length_take_le _ _) (by omega)))
        · rw [upd_ne (neD b o eb)]; exact k3 b o eb hb
        · rw [upd_same, sel_yes nint (fun k => decide (hs[k]? = some (some (n : Int)))) hr hx2]
      · rw [decide_eq_false hc] at hx2 ⊢
        refine iteF ⟨k3, ?_⟩
        rw [eD, sel_no nint (fun k => decide (hs[k]? = some (some (n : Int)))) hr hx2]
    · rintro H3 ⟨k3, eD⟩
      refine q D H3 (k1.free hD) (k1.trans k3) ?_
      rw [eD, List.length_map, List.take_length]; rfl
end

end Lw
namespace Lw
open PySem PySem.Spec L2 FG
open PyProof.Rows hiding St
def spDeed (C : Addr) : Sp := fun vs H Q _ => ∃ b p h t m mh mt hs ts n, vs = [.ref b, .ref p, .ref m] ∧ BoxAt H b n ∧ n < 10000000 ∧ Pr C H p h t m mh mt hs ts ∧ Hg hs ts ∧ b ∉ [p, h, t, m, mh, mt] ∧
  ∀ H' hs' ts', Kp [b, h, t, mh, mt] H H' → BoxAt H' b (n + 3) → Pr C H' p h t m mh mt hs' ts' → Hg hs' ts' → Q .non H'
section
variable {P : Program} {w : World} {K : PySem.W.Frag} {mg : Str → Option Value} {base : Heap}
theorem ok_deed (T : Tx K mg) {fd : FuncData} (F : Fun K "_law_deed" "_law_deed" s__law_deed (He.ga K "_law_deed") fd) (c__law_take : Cal P w K mg base 1 "_law_take" spTake) (c__law_one : Cal P w K mg base 2 "_law_one" spOne)
    (c__law_standing : Cal P w K mg base 1 "_law_standing" spLStanding) (c__law_finish : Cal P w K mg base 2 "_law_finish" spLFin) (c__law_begin : Cal P w K mg base 1 "_law_begin" spLBegin)
    (m_finish : Met P w K mg base 5 (CF K) "finish" (spFin (CF K))) (m_begin : Met P w K mg base 5 (CF K) "begin" (spBegin (CF K))) : FnG P w K mg base 6 (He.ga K "_law_deed") fd ["_law_box_here", "_law_frames", "_law_model_here"] (spDeed (CF K)) := by
  refine FnG.of F sc__law_deed (fun vs H Q E h => ?_) (fun cdv A outer s H vs Q E hr h => ?_)
  · obtain ⟨b, p, h, t, m, mh, mt, hs, ts, n, rfl, _⟩ := h; rfl
  · obtain ⟨b, p, h, t, m, mh, mt, hs, ts, n, rfl, hb, hn, pr, hg, nb, q⟩ := h
    have wf := pr.f.wf
    have wl := wf.len
    have ws := wf.small
    have sep := pr.sep
    have nb' := nb
    simp only [List.nodup_cons, List.mem_cons, List.not_mem_nil, or_false, not_or, List.nodup_nil, and_true, not_false_eq_true] at sep nb'
    obtain ⟨⟨s1, s2, s3⟩, ⟨s4, s5⟩, s6⟩ := sep
    have s1 : h ≠ t := s1
    have s2 : h ≠ mh := s2
    have s3 : h ≠ mt := s3
    have s4 : t ≠ mh := s4
    have s5 : t ≠ mt := s5
    have s6 : mh ≠ mt := s6
    obtain ⟨b1, b2, b3, b4, b5, b6⟩ := nb'
    refine ⟨_, pss_cons (ps_set (i := 3) sc__law_deed.nd rfl (by first | exact Or.inl rfl | exact Or.inr rfl) (pe_cmpR op_eq (gc c__law_take (hr.mono (by decide)) takes0 (pa_cons (pv 0) (pa_cons (pe_int) (pa_nil)))) (pe_int) (by first | exact nomark _ | rfl)))
      (pss_cons (ps_set (i := 4) sc__law_deed.nd rfl (by first | exact Or.inl rfl | exact Or.inr rfl) (gc c__law_one (hr.mono (by decide)) takes0 (pa_cons (pv 0) (pa_cons (gc c__law_standing (hr.mono (by decide)) takes0 (pa_cons (pv 2) (pa_nil))) (pa_nil)))))
      (pss_one (ps_if (PW.pt (pw_and (pt_val (pv 3)) (pw_and1 (pt_cmpR op_gt (pv 4) (pe_int) (by first | exact nomark _ | rfl))))) (pss_cons (ps_expr (gm m_finish (hr.mono (by decide)) takes0 (pv 1) (pa_cons (pv 4) (pa_nil))))
      (pss_one (ps_expr (gc c__law_finish (hr.mono (by decide)) takes0 (pa_cons (pv 2) (pa_cons (pv 4) (pa_nil))))))) (pss_one (ps_if (pt_cmpR op_le (pe_callB (klen K) (by rfl) T.z_len PySem.boot_len (pa_cons (pe_dget hr.hu (pv 2) (pe_str) (fun _ _ => rfl)) (pa_nil))) (pe_int) (by first | exact nomark _ | rfl)) (pss_cons (ps_expr (gm m_begin (hr.mono (by decide)) takes0 (pv 1) (pa_cons (pv 4) (pa_nil))))
      (pss_one (ps_expr (gc c__law_begin (hr.mono (by decide)) takes0 (pa_cons (pv 2) (pa_cons (pv 4) (pa_nil))))))) (pss_nil)))))), ?_⟩
    refine ⟨_, rfl, b, n, 4, rfl, hb, by omega, by decide, by decide, fun H1 e k1 hb1 e0 e1 => ⟨rfl, ?_⟩⟩
    have pr1 := pr.kp k1.kp (by simpa using nb)
    refine ⟨_, rfl, _, rfl, m, mh, mt, hs, ts, rfl, pr1.m, by omega, fun l H2 hl2 k2 eL2 => ?_⟩
    have hb2 := hb1.kp k2 (by simp)
    have pr2 := pr1.kp0 k2
    obtain ⟨bx, by_, bc, ebx, _⟩ := id hb1
    have nbl : b ≠ l := ne_of_none ebx hl2
    have ne0 : stand ts ≠ [] := fun c => by have := mem_stand.mpr pr.g; rw [c] at this; cases this
    refine ⟨b, l, n + 1, stand ts, rfl, hb2, by omega, eL2, nbl, ne0, Nat.le_trans (stand_len ts) (by omega), fun H3 f hf k3 hb3 => ?_⟩
    have hft := mem_stand.mp hf
    have hfl : f < ts.length := stand_lt hf
    have pr3 := pr2.kp k3 (by simpa using nb)
    have kA : Kp [b] H H3 := (k1.kp.trans (k2.mono (by simp))).trans k3
    refine ⟨_, rfl, _, rfl, ?_⟩
    refine and_if (d := decide ((0 : Int) < (f : Int))) (fun z => ⟨_, rfl, _, _, rfl, rfl, _, rfl, z⟩) (fun hc hd => ?_) (fun hcd => ?_)
    · have hf0 : 0 < f := by have := of_decide_eq_true hd; omega
      obtain ⟨dx, fs, ep, ff⟩ := pr3.f.ob
      refine ⟨_, rfl, p, dx, fs, rfl, ep, ff.no _ (by decide +kernel), _, rfl, p, h, t, hs, ts, f, rfl, pr3.f, hft, hf0, fun l4 H4 hl4 k4 fr4 eL4 => ?_⟩
      have md4 : ModAt H4 m mh mt hs ts := pr3.m.kp k4 (by simpa using Ne.symm (ne_of pr3.f.lt pr3.m.d (by intro c; cases c))) (by simpa using s4.symm) (by simpa using s5.symm)
      refine ⟨_, rfl, _, rfl, m, mh, mt, hs, ts, f, rfl, md4, wf, fun l5 H5 hl5 k5 md5 eL5 => ?_⟩
      have kB : Kp [t, mt] H3 H5 := (k4.mono (by simp)).trans (k5.mono (by simp))
      have fr5 := fr4.kp (S := [mt]) k5 (by simpa using ne_of ep pr3.m.lt (by intro c; cases c)) (by simpa using s3) (by simpa using s5)
      exact q _ hs (taken ts (fin hs ts f) f) ((kA.mono (by simp)).trans (kB.mono (by simp))) ((hb3.kp kB (by simp [b3, b6])).more (by omega)) ⟨fr5, md5, ground_stays wf pr.g hf0, pr.tk.taken (by omega) _, pr.sep⟩ (hg.ended hft)
    · refine ⟨_, rfl, m, _, rfl, pr3.m.getH, mh, _, rfl, .inl (SqL.of pr3.m.lh), _, _, rfl, rfl, _, rfl, ?_⟩
      refine ite2 (fun h100 => ?_) (fun h100 => ?_)
      · have h100' : hs.length ≤ 100 := by
          have z : (((hs.map enc).length : Int) ≤ 100) := by simpa using h100
          rw [List.length_map] at z; omega
        obtain ⟨dx, fs, ep, ff⟩ := pr3.f.ob
        refine ⟨_, rfl, p, dx, fs, rfl, ep, ff.no _ (by decide +kernel), _, rfl, p, h, t, hs, ts, f, rfl, pr3.f, hft, h100', fun H4 k4 fr4 => ?_⟩
        have md4 : ModAt H4 m mh mt hs ts := pr3.m.kp k4 (by simpa using ⟨Ne.symm (ne_of pr3.f.lh pr3.m.d (by intro c; cases c)), Ne.symm (ne_of pr3.f.lt pr3.m.d (by intro c; cases c))⟩) (by simpa using ⟨s2.symm, s4.symm⟩) (by simpa using ⟨s3.symm, s5.symm⟩)
        refine ⟨_, rfl, _, rfl, m, mh, mt, hs, ts, f, rfl, md4, by omega, by omega, fun H5 k5 md5 => ?_⟩
        have fr5 := fr4.kp (S := [mh, mt]) k5 (by simpa using ⟨ne_of ep pr3.m.lh (by intro c; cases c), ne_of ep pr3.m.lt (by intro c; cases c)⟩) (by simpa using ⟨s2, s3⟩) (by simpa using ⟨s4, s5⟩)
        have kB : Kp [h, t, mh, mt] H3 H5 := (k4.mono (by simp)).trans (k5.mono (by simp))
        refine q _ _ _ ((kA.mono (by simp)).trans (kB.mono (by simp))) ((hb3.kp kB (by simp [b2, b3, b5, b6])).more (by omega)) ⟨fr5, md5, ?_, pr.tk.more, pr.sep⟩ (hg.begun hft h100')
        rw [List.getElem?_append_left (by have := wf.pos; omega)]; exact pr.g
      · exact q _ hs ts (kA.mono (by simp)) (hb3.more (by omega)) pr3 hg
end

end Lw
namespace Lw
open PySem PySem.Spec L2 FG
open PyProof.Rows hiding St
theorem ok_nints {xs : List Nat} (hx : ∀ x ∈ xs, x < 10000) : okD (.list (xs.map pnint)) = true ∧ (PyData.list (xs.map pnint)).bulk = xs.length ∧ (PyData.list (xs.map pnint)).depth = 1 := by
  refine ⟨?_, ?_, ?_⟩
  · simp only [okD]
    refine okDs_of fun d hd => ?_
    obtain ⟨x, h, rfl⟩ := List.mem_map.mp hd
    have := hx x h
    have e1 : (10 : Nat) ^ 38 = 100000000000000000000000000000000000000 := by decide
    simp only [pnint, okD, decide_eq_true_eq, e1]; omega
  · simp only [PyData.bulk]
    rw [bulk_flat fun d hd => by obtain ⟨x, _, rfl⟩ := List.mem_map.mp hd; simp only [pnint, PyData.bulk], List.length_map]
  · simp only [PyData.depth]
    rw [depth_flat fun d hd => by obtain ⟨x, _, rfl⟩ := List.mem_map.mp hd; simp only [pnint, PyData.depth]]
theorem shw_two {K : PySem.W.Frag} {l a b : Addr} {xs ys : List Nat} {H : Hp} (e : H l = some (.lst [.ref a, .ref b])) (ea : H a = some (.lst (xs.map nint))) (eb : H b = some (.lst (ys.map nint))) (hx : ∀ x ∈ xs, x < 10000) (hy : ∀ x ∈ ys, x < 10000)
    (hl : xs.length ≤ 10000) (hm : ys.length ≤ 10000) : Shw K H (.ref l) (.list [.list (xs.map pnint), .list (ys.map pnint)]) := by
  obtain ⟨a1, a2, a3⟩ := ok_nints hx
  obtain ⟨b1, b2, b3⟩ := ok_nints hy
  refine shw_at (.lst (SqL.of e) (.cons (.lst (SqL.of ea) (dp_nint K H xs)) (.cons (.lst (SqL.of eb) (dp_nint K H ys)) .nil))) ?_ ?_ ?_
  · rw [okD]
    simp only [okDs, a1, b1, Bool.and_self]
  · rw [PyData.bulk]
    simp only [PyData.bulkAll, a2, b2]; omega
  · rw [PyData.depth]
    simp only [PyData.depthAll, a3, b3]; omega
def spTold (C : Addr) : Sp := fun vs H Q _ => ∃ p h t m mh mt hs ts, ∃ n : Nat, vs = [.ref p, .ref m, nint n] ∧ Pr C H p h t m mh mt hs ts ∧ n < hs.length ∧ ∀ H', Kp [] H H' → Q (.bl true) H'
def spHangs (C : Addr) : Sp := fun vs H Q _ => ∃ p h t m mh mt hs ts, vs = [.ref p, .ref m] ∧ Pr C H p h t m mh mt hs ts ∧ Hg hs ts ∧ ∀ H', Kp [] H H' → Q (.bl true) H'
theorem row_small {hs ts : List (Option Int)} (w : Wf hs ts) {n : Nat} (hn : n < hs.length) : (∀ x ∈ rowW hs n, x < 10000) ∧ (rowW hs n).length ≤ 200 := by
  have ws := w.small
  have h1 := row_len w (n + 1) n (by omega) hn
  exact ⟨fun x hx => by have := row_lt w (n + 1) n (by omega) hn x hx; omega, by omega⟩
theorem tok_hs {hs ts : List (Option Int)} (w : Wf hs ts) {n : Nat} {i : Int} (h : hs[n]? = some (some i)) : i.natAbs < 1000 := by
  have ws := w.small
  by_cases h0 : n = 0
  · subst h0; rw [w.root] at h; cases h
  · have hl := (List.getElem?_eq_some_iff.mp h).1
    obtain ⟨j, e, hj⟩ := w.up n (by omega) hl
    rw [h] at e
    have : i = (j : Int) := by injection e with e; injection e
    omega
section
variable {P : Program} {w : World} {K : PySem.W.Frag} {mg : Str → Option Value} {base : Heap}
theorem ok_told (T : Tx K mg) {fd : FuncData} (F : Fun K "_law_told_right" "_law_told_right" s__law_told_right (He.ga K "_law_told_right") fd) (c__law_row : Cal P w K mg base 1 "_law_row" spLRow) (c__law_within : Cal P w K mg base 2 "_law_within" spLWithin)
    (m_row : Met P w K mg base 4 (CF K) "row" (spRow (CF K))) (m_within : Met P w K mg base 4 (CF K) "within" (spWithin (CF K))) (m_inside : Met P w K mg base 4 (CF K) "inside" (spInside (CF K))) (m_ended_by : Met P w K mg base 4 (CF K) "ended_by" (spBy (CF K))) :
    FnG P w K mg base 5 (He.ga K "_law_told_right") fd ["_law_frames", "_law_model_here", "_law_frame"] (spTold (CF K)) := by
  refine FnG.of F sc__law_told_right (fun vs H Q E h => ?_) (fun cdv A outer s H vs Q E hr h => ?_)
  · obtain ⟨p, h, t, m, mh, mt, hs, ts, n, rfl, _⟩ := h; rfl
  · obtain ⟨p, h, t, m, mh, mt, hs, ts, n, rfl, pr, hn, q⟩ := h
    have wf := pr.f.wf
    have wl := wf.len
    have ws := wf.small
    obtain ⟨rs, rl⟩ := row_small wf hn
    have wsm : ∀ x ∈ withinL hs ts n, x < 10000 := fun x hx => by have := withinL_lt hx; omega
    have wlen := withinL_len hs ts n
    obtain ⟨dx, fs, ep, ff⟩ := pr.f.ob
    refine ⟨_, pss_cons (ps_set (i := 3) sc__law_told_right.nd rfl (by first | exact Or.inl rfl | exact Or.inr rfl) (pe_lst (pa_cons (gc c__law_row (hr.mono (by decide)) takes0 (pa_cons (pv 1) (pa_cons (pv 2) (pa_nil)))) (pa_cons (gc c__law_within (hr.mono (by decide)) takes0 (pa_cons (pv 1) (pa_cons (pv 2) (pa_nil)))) (pa_nil)))))
      (pss_cons (ps_for (passes_of rfl) rfl (pi_range1 rfl T.z_range (pa_cons (pe_int) (pa_nil))) (pg_name (i := 4) sc__law_told_right.nd rfl (by first | exact Or.inl rfl | exact Or.inr rfl))
        (pss_cons (ps_set (i := 5) sc__law_told_right.nd rfl (by first | exact Or.inl rfl | exact Or.inr rfl) (pe_lst (pa_cons (gm m_row (hr.mono (by decide)) takes0 (pv 0) (pa_cons (pv 2) (pa_nil))) (pa_cons (gm m_within (hr.mono (by decide)) takes0 (pv 0) (pa_cons (pv 2) (pa_nil))) (pa_nil)))))
      (pss_cons (ps_if (pt_cmpR op_ne (krepr K hr T.z_repr (pv 5)) (krepr K hr T.z_repr (pv 3)) (by first | exact nomark _ | rfl)) (pss_one (ps_ret (pe_bl))) (pss_nil))
      (pss_cons (ps_expr (kbm K PySem.F.plainAttrs_list PySem.F.slot_list_append PySem.F.type_list_append mt_append (pe_ix (kixL K) (pv 5) (pe_int) (fun _ _ => rfl)) (pa_cons (pv 2) (pa_nil))))
      (pss_one (ps_expr (kbm K PySem.F.plainAttrs_list PySem.F.slot_list_append PySem.F.type_list_append mt_append (pe_ix (kixL K) (pv 5) (pe_int) (fun _ _ => rfl)) (pa_cons (pe_non) (pa_nil)))))))))
      (pss_cons (ps_set (i := 6) sc__law_told_right.nd rfl (by first | exact Or.inl rfl | exact Or.inr rfl) (pe_lst (pa_cons (gm m_inside (hr.mono (by decide)) takes0 (pv 0) (pa_cons (pv 2) (pa_nil))) (pa_cons (gm m_ended_by (hr.mono (by decide)) takes0 (pv 0) (pa_cons (pv 2) (pa_nil))) (pa_nil)))))
      (pss_one (ps_ret (pe_cmpR op_eq (krepr K hr T.z_repr (pv 6)) (krepr K hr T.z_repr (pe_lst (pa_cons (pe_ix (kixL K) (pe_dget hr.hu (pv 1) (pe_str) (fun _ _ => rfl)) (pv 2) (fun _ _ => rfl)) (pa_cons (pe_ix (kixL K) (pe_dget hr.hu (pv 1) (pe_str) (fun _ _ => rfl)) (pv 2) (fun _ _ => rfl)) (pa_nil))))) (by first | exact nomark _ | rfl)))))), ?_⟩
    refine ⟨_, rfl, _, rfl, m, mh, mt, hs, ts, n, rfl, pr.m, wf, hn, fun l1 H1 hl1 k1 e1 => ⟨_, rfl, _, rfl, m, mh, mt, hs, ts, n, rfl, pr.m.kp0 k1, wf, fun l2 H2 hl2 k2 e2 => ⟨(by show 2 ≤ sizeLine; decide), fun dl hdl => ?_⟩⟩⟩
    have K3 : Kp [] H2 (upd H2 dl (.lst [.ref l1, .ref l2])) := fun b o e _ => (upd_ne (ne_of_none e hdl)).trans e
    have E3 : upd H2 dl (.lst [.ref l1, .ref l2]) dl = some (.lst [.ref l1, .ref l2]) := upd_same
    have E1 := K3 _ _ (k2 _ _ e1 (by simp)) (by simp)
    have E2 := K3 _ _ e2 (by simp)
    have KH : Kp [] H (upd H2 dl (.lst [.ref l1, .ref l2])) := (k1.trans k2).trans K3
    generalize upd H2 dl (.lst [.ref l1, .ref l2]) = H3 at *
    refine ⟨2, rfl, by decide, by decide, for_range (n := 2) (fun i σ H' => ∃ v4 v5, σ = [some (.ref p), some (.ref m), some (nint n), some (.ref dl), v4, v5, none] ∧ Kp [] H3 H') ⟨none, none, rfl, Kp.refl⟩ ?_ ?_⟩
    · rintro i σ H4 hi ⟨v4, v5, rfl, k4⟩
      have kA : Kp [] H H4 := KH.trans k4
      refine ⟨_, rfl, p, dx, fs, rfl, kA _ _ ep (by simp), ff.no _ (by decide +kernel), _, rfl, p, h, t, hs, ts, n, rfl, (pr.kp0 kA).f, hn, fun r1 H5 hr1 k5 f1 => ?_⟩
      have kB : Kp [] H H5 := kA.trans k5
      refine ⟨_, rfl, p, dx, fs, rfl, kB _ _ ep (by simp), ff.no _ (by decide +kernel), _, rfl, p, h, t, hs, ts, n, rfl, (pr.kp0 kB).f, hn, fun r2 H6 hr2 k6 f2 => ⟨(by show 2 ≤ sizeLine; decide), fun fl hfl => ?_⟩⟩
      have k46 : Kp [] H4 H6 := k5.trans k6
      have k7 : Kp [] H6 (upd H6 fl (.lst [.ref r1, .ref r2])) := fun b o e _ => (upd_ne (ne_of_none e hfl)).trans e
      have g7 : upd H6 fl (.lst [.ref r1, .ref r2]) fl = some (.lst [.ref r1, .ref r2]) := upd_same
      generalize upd H6 fl (.lst [.ref r1, .ref r2]) = H7 at *
      have f1' := k7 _ _ (k6 _ _ f1 (by simp)) (by simp)
      have f2' := k7 _ _ f2 (by simp)
      have k37 : Kp [] H3 H7 := (k4.trans k46).trans k7
      refine ⟨_, rfl, _, _, rfl, shw_two g7 f1' f2' rs wsm (by omega) (by omega), _, rfl, _, _, rfl, shw_two (k37 _ _ E3 (by simp)) (k37 _ _ E1 (by simp)) (k37 _ _ E2 (by simp)) rs wsm (by omega) (by omega), rfl, _, rfl, ?_⟩
      have er : (!decide (V.str (PyData.shown (.list [.list ((rowW hs n).map pnint), .list ((withinL hs ts n).map pnint)])) = V.str (PyData.shown (.list [.list ((rowW hs n).map pnint), .list ((withinL hs ts n).map pnint)])))) = false := by simp
      rw [er]
      refine iteF ?_
      have n12 : r1 ≠ r2 := ne_of_none f1 hr2
      have n1f : fl ≠ r1 := fun c => by rw [c] at hfl; rw [k6 _ _ f1 (by simp)] at hfl; cases hfl
      refine ⟨_, rfl, fl, _, _, .ref r1, rfl, rfl, SqL.of g7, rfl, .inl ⟨rfl, _, SqL.of f1'⟩, _, rfl, r1, _, _, rfl, rfl, f1', (by rw [List.length_map]; exact small1000 (by omega)), ?_⟩
      have g8 : upd H7 r1 (.lst ((rowW hs n).map nint ++ [nint n])) fl = some (.lst [.ref r1, .ref r2]) := (upd_ne n1f).trans g7
      have f8 : upd H7 r1 (.lst ((rowW hs n).map nint ++ [nint n])) r2 = some (.lst ((withinL hs ts n).map nint)) := (upd_ne n12.symm).trans f2'
      refine ⟨_, rfl, fl, _, _, .ref r2, rfl, rfl, SqL.of g8, rfl, .inl ⟨rfl, _, SqL.of f8⟩, r2, _, _, rfl, rfl, f8, (by rw [List.length_map]; exact small1000 (by omega)), _, _, rfl, fun b o e _ => ?_⟩
      have z := k4 b o e (by simp)
      rw [upd_ne (ne_of_none (k5 b o z (by simp)) hr2), upd_ne (ne_of_none z hr1)]
      exact (k46.trans k7) b o z (by simp)
    · rintro σ H4 ⟨v4, v5, rfl, k4⟩
      have kA : Kp [] H H4 := KH.trans k4
      have prA := pr.kp0 kA
      have hnt : n < ts.length := by omega
      have oh := List.getElem?_eq_getElem hn
      have ot := List.getElem?_eq_getElem hnt
      have tk : TOk [hs[n], ts[n]] := fun i hi => by
        rcases List.mem_cons.mp hi with z | z
        · exact tok_hs wf (oh.trans (congrArg some z.symm))
        · have z2 : some i = ts[n] := by simpa using z
          exact pr.tk i (z2 ▸ List.getElem_mem hnt)
      refine ⟨_, rfl, p, dx, fs, rfl, kA _ _ ep (by simp), ff.no _ (by decide +kernel), _, rfl, p, h, t, hs, ts, n, _, rfl, prA.f, oh, ?_⟩
      refine ⟨_, rfl, p, dx, fs, rfl, kA _ _ ep (by simp), ff.no _ (by decide +kernel), _, rfl, p, h, t, hs, ts, n, _, rfl, prA.f, ot, (by show 2 ≤ sizeLine; decide), fun tl htl => ?_⟩
      have k5 : Kp [] H4 (upd H4 tl (.lst [enc hs[n], enc ts[n]])) := fun b o e _ => (upd_ne (ne_of_none e htl)).trans e
      have g5 : upd H4 tl (.lst [enc hs[n], enc ts[n]]) tl = some (.lst ([hs[n], ts[n]].map enc)) := upd_same
      have prB := prA.kp0 k5
      refine ⟨_, rfl, _, _, rfl, shw_encs g5 tk (by simp), ?_⟩
      refine ⟨_, rfl, m, _, rfl, prB.m.getH, _, rfl, mh, _, _, _, rfl, rfl, SqL.of prB.m.lh, get_enc oh, _, rfl, m, _, rfl, prB.m.getT, _, rfl, mt, _, _, _, rfl, rfl, SqL.of prB.m.lt, get_enc ot, (by show 2 ≤ sizeLine; decide), fun ul hul => ?_⟩
      have g6 : upd (upd H4 tl (.lst [enc hs[n], enc ts[n]])) ul (.lst [enc hs[n], enc ts[n]]) ul = some (.lst ([hs[n], ts[n]].map enc)) := upd_same
      refine ⟨_, _, rfl, shw_encs g6 tk (by simp), rfl, ?_⟩
      rw [decide_eq_true rfl]
      exact q _ ((kA.trans k5).trans fun b o e _ => (upd_ne (ne_of_none e hul)).trans e)
end

end Lw
namespace Lw
open PySem PySem.Spec L2 FG
open PyProof.Rows hiding St
section
variable {P : Program} {w : World} {K : PySem.W.Frag} {mg : Str → Option Value} {base : Heap}
theorem ok_hangs (T : Tx K mg) {fd : FuncData} (F : Fun K "_law_hangs_right" "_law_hangs_right" s__law_hangs_right (He.ga K "_law_hangs_right") fd) (m_row : Met P w K mg base 4 (CF K) "row" (spRow (CF K))) (m_within : Met P w K mg base 4 (CF K) "within" (spWithin (CF K)))
    (m_stands : Met P w K mg base 3 (CF K) "stands" (spStands (CF K))) (m_ended_by : Met P w K mg base 4 (CF K) "ended_by" (spBy (CF K))) :
    FnG P w K mg base 5 (He.ga K "_law_hangs_right") fd ["_law_frames", "_law_model_here"] (spHangs (CF K)) := by
  refine FnG.of F sc__law_hangs_right (fun vs H Q E h => ?_) (fun cdv A outer s H vs Q E hr h => ?_)
  · obtain ⟨p, h, t, m, mh, mt, hs, ts, rfl, _⟩ := h; rfl
  · obtain ⟨p, h, t, m, mh, mt, hs, ts, rfl, pr, hg, q⟩ := h
    have wf := pr.f.wf
    have wl := wf.len
    have ws := wf.small
    obtain ⟨dx, fs, ep, ff⟩ := pr.f.ob
    refine ⟨_, pss_cons (ps_for (passes_of rfl) rfl (pi_range1 rfl T.z_range (pa_cons (pe_callB (klen K) (by rfl) T.z_len PySem.boot_len (pa_cons (pe_dget hr.hu (pv 1) (pe_str) (fun _ _ => rfl)) (pa_nil))) (pa_nil))) (pg_name (i := 2) sc__law_hangs_right.nd rfl (by first | exact Or.inl rfl | exact Or.inr rfl))
        (pss_cons (ps_set (i := 3) sc__law_hangs_right.nd rfl (by first | exact Or.inl rfl | exact Or.inr rfl) (gm m_row (hr.mono (by decide)) takes0 (pv 0) (pa_cons (pv 2) (pa_nil))))
      (pss_cons (ps_set (i := 4) sc__law_hangs_right.nd rfl (by first | exact Or.inl rfl | exact Or.inr rfl) (gm m_ended_by (hr.mono (by decide)) takes0 (pv 0) (pa_cons (pv 2) (pa_nil))))
      (pss_cons (ps_if (PW.pt (pw_and (pt_cmpR op_isN (pv 4) (pe_non) (by first | exact nomark _ | rfl)) (pw_and1 (pt_cmpR (kneD K hr.r.units) (pe_lc (own := [("_law_one_here", 5)]) (g := gName 5) rfl sc__law_hangs_right.nd (kiL K (pv 3)) (blkOk_by (own := [("_law_one_here", 5)]) (N := ["_law_frames", "_law_model_here", "_law_frame", "_law_row_here", "_law_by", "_law_one_here"]) (sc := defScope s__law_hangs_right) (by decide +kernel)) (fun _ _ _ _ _ => pg_name (i := 5) sc__law_hangs_right.nd rfl (by first | exact Or.inl rfl | exact Or.inr rfl)) (fun _ _ _ _ _ => by exact pts_one (pt_not (pt_val (gm m_stands (hr.mono (by decide)) takes0 (pv 0) (pa_cons (pv 5) (pa_nil)))))) (fun _ _ _ _ _ => by exact pv 5)) (pe_lst (pa_nil)) (by first | exact nomark _ | rfl))))) (pss_one (ps_ret (pe_bl))) (pss_nil))
      (pss_cons (ps_if (pt_cmpR op_isN (pv 4) (pe_non) (by first | exact nomark _ | rfl)) (pss_one (ps_continue)) (pss_nil))
      (pss_one (ps_if (PW.pt (pw_or (pt_cmpR (knotIn K) (pv 4) (pv 3) (by first | exact nomark _ | rfl)) (pw_or (pt_cmpR op_ne (gm m_ended_by (hr.mono (by decide)) takes0 (pv 0) (pa_cons (pv 4) (pa_nil))) (pv 4) (by first | exact nomark _ | rfl)) (pw_or1 (pt_cmpR (kneD K hr.r.units) (gm m_within (hr.mono (by decide)) takes0 (pv 0) (pa_cons (pv 2) (pa_nil))) (pe_lst (pa_nil)) (by first | exact nomark _ | rfl)))))) (pss_one (ps_ret (pe_bl))) (pss_nil))))))))
      (pss_one (ps_ret (pe_bl))), ?_⟩
    refine ⟨_, rfl, m, _, rfl, pr.m.getH, mh, _, rfl, .inl (SqL.of pr.m.lh), _, rfl, (by rw [List.length_map]; omega), (by rw [List.length_map]; omega), for_range (lo := 0) (n := _) (fun i σ H' => ∃ v2 v3 v4, σ = [some (.ref p), some (.ref m), v2, v3, v4, none] ∧ Kp [] H H') ⟨none, none, none, rfl, Kp.refl⟩ ?_ ?_⟩
    · rintro i σ H1 hi ⟨v2, v3, v4, rfl, k1⟩
      have hi2 : i < hs.length := by simpa using hi
      have hit : i < ts.length := by omega
      have e0 : V.int (0 + (i : Int)) = nint i := by rw [Int.zero_add]; rfl
      obtain ⟨rs, rl⟩ := row_small wf hi2
      refine ⟨_, rfl, p, dx, fs, rfl, k1 _ _ ep (by simp), ff.no _ (by decide +kernel), _, rfl, p, h, t, hs, ts, i, by rw [e0], (pr.kp0 k1).f, hi2, fun l H2 hl k2 eL => ?_⟩
      have kA : Kp [] H H2 := k1.trans k2
      have eTi := List.getElem?_eq_getElem hit
      refine ⟨_, rfl, p, dx, fs, rfl, kA _ _ ep (by simp), ff.no _ (by decide +kernel), _, rfl, p, h, t, hs, ts, i, ts[i], by rw [e0], (pr.kp0 kA).f, eTi, _, rfl, rfl, _, rfl, ?_⟩
      cases ho : ts[i] with
      | none =>
        rw [ho] at eTi
        have up := hg.up i eTi
        refine iteT ⟨_, rfl, l, rfl, ⟨_, SqL.of eL⟩, fun D hD => ?_⟩
        have neD : ∀ b o, H2 b = some o → b ≠ D := fun b o eb => ne_of_none eb hD
        refine lc_list (K := K) (a := l) (xs := (rowW hs i).map nint) (fun j H3 => Kp [] H2 H3 ∧ H3 D = some (.lst [])) ⟨fun b o eb _ => (upd_ne (neD b o eb)).trans eb, upd_same⟩ (fun j H3 _ ⟨k3, _⟩ => SqL.of (k3 _ _ eL (by simp))) ?_ ?_
        · rintro j x H3 hx ⟨k3, eD⟩
          obtain ⟨k, hrk, rfl⟩ : ∃ k, (rowW hs i)[j]? = some k ∧ x = nint k := by
            rw [List.getElem?_map] at hx
            cases ek : (rowW hs i)[j]? with
            | none => rw [ek] at hx; cases hx
            | some k => rw [ek] at hx; exact ⟨k, rfl, (Option.some.inj hx).symm⟩
          have hst := up k (List.mem_of_getElem? hrk)
          have kB : Kp [] H H3 := kA.trans k3
          refine ⟨rfl, _, rfl, p, dx, fs, rfl, kB _ _ ep (by simp), ff.no _ (by decide +kernel), _, rfl, p, h, t, hs, ts, (k : Int), rfl, (pr.kp0 kB).f, _, rfl, ?_⟩
          have z : decide ((0 : Int) ≤ k ∧ ts[((k : Nat) : Int).toNat]? = some none) = true := decide_eq_true ⟨by omega, by rw [Int.toNat_natCast]; exact hst⟩
          rw [z]
          exact iteF ⟨k3, eD⟩
        · rintro H3 ⟨k3, eD⟩
          refine ⟨Nat.zero_le _, fun nl hnl => ⟨.list [], .list [], .lst (SqL.of ((upd_ne (ne_of_none eD hnl)).trans eD)) .nil, .lst (SqL.of upd_same) .nil, by decide +kernel, by decide +kernel, _, rfl, ?_⟩⟩
          have z : (!PyData.eqv (.list []) (.list [])) = false := by decide +kernel
          rw [z]
          refine iteF ⟨_, rfl, rfl, _, rfl, iteT ⟨_, _, _, rfl, fun b o eb hb => ?_⟩⟩
          have y := (kA.trans k3) b o eb hb
          exact (upd_ne (ne_of_none y hnl)).trans y
      | some b =>
        rw [ho] at eTi
        obtain ⟨k, rfl, hkr, hkt⟩ := hg.by_ i b eTi
        refine iteF (iteF ⟨_, rfl, rfl, _, rfl, iteF ?_⟩)
        have z1 : (!inV (enc (some (k : Int))) ((rowW hs i).map nint)) = false := by
          show (!inV (.int (k : Int)) ((rowW hs i).map nint)) = false
          rw [inV_nint, decide_eq_true hkr]; rfl
        refine ⟨_, rfl, _, rfl, l, _, rfl, .inl (SqL.of eL), rfl, flat_nint _, _, rfl, ?_⟩
        show if (!inV (enc (some (k : Int))) ((rowW hs i).map nint)) = true then _ else _
        rw [z1]
        refine iteF ⟨_, rfl, p, dx, fs, rfl, kA _ _ ep (by simp), ff.no _ (by decide +kernel), _, rfl, p, h, t, hs, ts, k, some (k : Int), rfl, (pr.kp0 kA).f, hkt, _, rfl, rfl, _, rfl, ?_⟩
        have z2 : (!decide (enc (some (k : Int)) = enc (some (k : Int)))) = false := by simp
        rw [z2]
        refine iteF ⟨_, rfl, p, dx, fs, rfl, kA _ _ ep (by simp), ff.no _ (by decide +kernel), _, rfl, p, h, t, hs, ts, i, by rw [e0], (pr.kp0 kA).f, hi2, fun wl H3 hwl k3 eW => ⟨Nat.zero_le _, fun nl hnl => ?_⟩⟩
        rw [hg.alone eTi] at eW
        refine ⟨.list [], .list [], .lst (SqL.of ((upd_ne (ne_of_none eW hnl)).trans eW)) .nil, .lst (SqL.of upd_same) .nil, by decide +kernel, by decide +kernel, _, rfl, ?_⟩
        have z : (!PyData.eqv (.list []) (.list [])) = false := by decide +kernel
        rw [z]
        refine iteF ⟨_, _, _, rfl, fun b o eb hb => ?_⟩
        have y := (kA.trans k3) b o eb hb
        exact (upd_ne (ne_of_none y hnl)).trans y
    · rintro σ H1 ⟨v2, v3, v4, rfl, k1⟩
      exact q H1 k1
end

end Lw
namespace Lw
open PySem PySem.Spec L2 FG
open PyProof.Rows hiding St
/-- range(i, j, 3) -/
theorem rg3 {i j : Int} (h0 : 0 ≤ i) (h1 : i < 100000) (h2 : 0 ≤ j) (h3 : j < 100000) : RgC i j 3 (Builtin.Range.rangeSize i j 3).toNat := by
  have e : Builtin.Range.rangeSize i j 3 = if i < j then (j - i - 1) / 3 + 1 else 0 := by
    unfold Builtin.Range.rangeSize
    rw [if_pos (by decide)]
  refine ⟨by decide, by decide, ?_, ?_⟩
  · unfold Builtin.Range.small
    rw [e]
    simp only [Builtin.Range.rangeFitsLong, Bool.and_eq_true, Bool.or_eq_true, decide_eq_true_eq, beq_iff_eq, show (3 : Int) > 0 by decide, if_true]
    split <;> omega
  · rw [e]; split <;> omega
theorem rg3_in {i j : Int} {k : Nat} (h0 : 0 ≤ i) (hk : k < (Builtin.Range.rangeSize i j 3).toNat) : 0 ≤ i + (k : Int) * 3 ∧ i + (k : Int) * 3 < j := by
  have e : Builtin.Range.rangeSize i j 3 = if i < j then (j - i - 1) / 3 + 1 else 0 := by
    unfold Builtin.Range.rangeSize
    rw [if_pos (by decide)]
  rw [e] at hk
  split at hk <;> omega
def spLaw (K : PySem.W.Frag) : Sp := fun vs H Q _ => ∃ (a : Addr) (ns : List Int), vs = [.ref a] ∧ ns.length ≤ 63 ∧ Scr K H a ns ∧ ∀ H', Q (.bl true) H'
section
variable {P : Program} {w : World} {K : PySem.W.Frag} {mg : Str → Option Value} {base : Heap}
theorem ok_law (T : Tx K mg) {fd : FuncData} (F : Fun K "law" "law" s_law (He.ga K "law") fd) (k_Frames : Mak P w K mg base 1 "Frames" (CF K) (spFInit (CF K))) (c__law_model : Cal P w K mg base 1 "_law_model" spModel) (c__law_cell : Cal P w K mg base 1 "_law_cell" (spCell K))
    (c__law_box : Cal P w K mg base 1 "_law_box" spBox) (c__law_take : Cal P w K mg base 1 "_law_take" spTake) (c__law_deed : Cal P w K mg base 6 "_law_deed" (spDeed (CF K))) (c__law_told_right : Cal P w K mg base 5 "_law_told_right" (spTold (CF K))) (c__law_hangs_right : Cal P w K mg base 5 "_law_hangs_right" (spHangs (CF K))) :
    FnG P w K mg base 7 (He.ga K "law") fd ["_law_script"] (spLaw K) := by
  refine FnG.of F sc_law (fun vs H Q E h => ?_) (fun cdv A outer s H vs Q E hr h => ?_)
  · obtain ⟨a, ns, rfl, _⟩ := h; rfl
  · obtain ⟨a, ns, rfl, hlen, scr, q⟩ := h
    refine ⟨_, pss_cons (ps_set (i := 1) sc_law.nd rfl (by first | exact Or.inl rfl | exact Or.inr rfl) (pe_lst (pa_cons (gk0 k_Frames (hr.mono (by decide)) takes0) (pa_cons (gk0 k_Frames (hr.mono (by decide)) takes0) (pa_nil)))))
      (pss_cons (ps_set (i := 2) sc_law.nd rfl (by first | exact Or.inl rfl | exact Or.inr rfl) (pe_lst (pa_cons (gc0 c__law_model (hr.mono (by decide)) takes0) (pa_cons (gc0 c__law_model (hr.mono (by decide)) takes0) (pa_nil)))))
      (pss_cons (ps_for (passes_of rfl) rfl (pi_range1 rfl T.z_range (pa_cons (pe_callB (call_max2 rfl) (by rfl) T.z_max (by decide +kernel) (pa_cons (pe_int) (pa_cons (pe_callB (call_min2 rfl) (by rfl) T.z_min (by decide +kernel) (pa_cons (pe_int) (pa_cons (pe_callB (klen K) (by rfl) T.z_len PySem.boot_len (pa_cons (pv 0) (pa_nil))) (pa_nil)))) (pa_nil)))) (pa_nil))) (pg_name (i := 3) sc_law.nd rfl (by first | exact Or.inl rfl | exact Or.inr rfl))
        (pss_cons (ps_set (i := 4) sc_law.nd rfl (by first | exact Or.inl rfl | exact Or.inr rfl) (gc c__law_box (hr.mono (by decide)) takes0 (pa_cons (gc c__law_cell (hr.mono (by decide)) takes0 (pa_cons (pv 0) (pa_cons (pv 3) (pa_nil)))) (pa_nil))))
      (pss_cons (ps_set (i := 5) sc_law.nd rfl (by first | exact Or.inl rfl | exact Or.inr rfl) (gc c__law_take (hr.mono (by decide)) takes0 (pa_cons (pv 4) (pa_cons (pe_int) (pa_nil)))))
      (pss_cons (ps_set (i := 6) sc_law.nd rfl (by first | exact Or.inl rfl | exact Or.inr rfl) (gc c__law_take (hr.mono (by decide)) takes0 (pa_cons (pv 4) (pa_cons (pe_int) (pa_nil)))))
      (pss_cons (ps_set (i := 7) sc_law.nd rfl (by first | exact Or.inl rfl | exact Or.inr rfl) (gc c__law_take (hr.mono (by decide)) takes0 (pa_cons (pv 4) (pa_cons (pe_int) (pa_nil)))))
      (pss_cons (ps_for (passes_of rfl) rfl (pi_range1 rfl T.z_range (pa_cons (pe_op op_add (pe_int) (gc c__law_take (hr.mono (by decide)) takes0 (pa_cons (pv 4) (pa_cons (pe_int) (pa_nil))))) (pa_nil))) (pg_name (i := 8) sc_law.nd rfl (by first | exact Or.inl rfl | exact Or.inr rfl))
        (pss_one (ps_expr (gc c__law_deed (hr.mono (by decide)) takes0 (pa_cons (pv 4) (pa_cons (pe_ix (kixL K) (pv 1) (pv 5) (fun _ _ => rfl)) (pa_cons (pe_ix (kixL K) (pv 2) (pv 5) (fun _ _ => rfl)) (pa_nil))))))))
      (pss_one (ps_for (passes_of rfl) rfl (pi_range3 rfl T.z_range (pa_cons (pv 7) (pa_cons (pe_callB (klen K) (by rfl) T.z_len PySem.boot_len (pa_cons (pe_dget hr.hu (pe_ix (kixL K) (pv 2) (pv 6) (fun _ _ => rfl)) (pe_str) (fun _ _ => rfl)) (pa_nil))) (pa_cons (pe_int) (pa_nil))))) (pg_name (i := 9) sc_law.nd rfl (by first | exact Or.inl rfl | exact Or.inr rfl))
        (pss_one (ps_if (pt_not (pt_val (gc c__law_told_right (hr.mono (by decide)) takes0 (pa_cons (pe_ix (kixL K) (pv 1) (pv 6) (fun _ _ => rfl)) (pa_cons (pe_ix (kixL K) (pv 2) (pv 6) (fun _ _ => rfl)) (pa_cons (pv 9) (pa_nil))))))) (pss_one (ps_ret (pe_bl))) (pss_nil)))))))))))
      (pss_cons (ps_for (passes_of rfl) rfl (pi_zip (by rfl) T.z_zip (pa_cons (pv 1) (pa_cons (pv 2) (pa_nil)))) (kgT K rfl (pgs_cons (pg_name (i := 10) sc_law.nd rfl (by first | exact Or.inl rfl | exact Or.inr rfl)) (pgs_cons (pg_name (i := 11) sc_law.nd rfl (by first | exact Or.inl rfl | exact Or.inr rfl)) (pgs_nil))))
        (pss_cons (ps_if (pt_not (pt_val (gc c__law_hangs_right (hr.mono (by decide)) takes0 (pa_cons (pv 10) (pa_cons (pv 11) (pa_nil)))))) (pss_one (ps_ret (pe_bl))) (pss_nil))
      (pss_one (ps_for (passes_of rfl) rfl (pi_range1 rfl T.z_range (pa_cons (pe_callB (klen K) (by rfl) T.z_len PySem.boot_len (pa_cons (pe_dget hr.hu (pv 11) (pe_str) (fun _ _ => rfl)) (pa_nil))) (pa_nil))) (pg_name (i := 9) sc_law.nd rfl (by first | exact Or.inl rfl | exact Or.inr rfl))
        (pss_one (ps_if (pt_not (pt_val (gc c__law_told_right (hr.mono (by decide)) takes0 (pa_cons (pv 10) (pa_cons (pv 11) (pa_cons (pv 9) (pa_nil))))))) (pss_one (ps_ret (pe_bl))) (pss_nil)))))))
      (pss_one (ps_ret (pe_bl)))))), ?_⟩
    refine fun p0 d0 hp0 hd0 nd0 => ⟨p0, d0, rfl, upd_same, fun h0 t0 H1 hh0 ht0 nh0 nt0 k1 fr0 => ⟨rfl, ?_⟩⟩
    refine fun p1 d1 hp1 hd1 nd1 => ⟨p1, d1, rfl, upd_same, fun h1 t1 H2 hh1 ht1 nh1 nt1 k2 fr1 => ⟨rfl, (by show 2 ≤ sizeLine; decide), fun bl hbl => ?_⟩⟩
    refine ⟨rfl, fun m0 mh0 mt0 H4 hm0 hmh0 hmt0 k4 md0 => ⟨rfl, fun m1 mh1 mt1 H5 hm1 hmh1 hmt1 k5 md1 => ⟨(by show 2 ≤ sizeLine; decide), fun ml hml => ?_⟩⟩⟩
    have K1 : Kp [] H H1 := made_kp hp0 hd0 k1
    have K2 : Kp [] H1 H2 := made_kp hp1 hd1 k2
    have K3 : Kp [] H2 (upd H2 bl (.lst [.ref p0, .ref p1])) := fun b o e _ => (upd_ne (ne_of_none e hbl)).trans e
    have B3 : upd H2 bl (.lst [.ref p0, .ref p1]) bl = some (.lst [.ref p0, .ref p1]) := upd_same
    generalize upd H2 bl (.lst [.ref p0, .ref p1]) = H3 at *
    have K6 : Kp [] H5 (upd H5 ml (.lst [.ref m0, .ref m1])) := fun b o e _ => (upd_ne (ne_of_none e hml)).trans e
    have B6 : upd H5 ml (.lst [.ref m0, .ref m1]) ml = some (.lst [.ref m0, .ref m1]) := upd_same
    generalize upd H5 ml (.lst [.ref m0, .ref m1]) = H6 at *
    have hh1' := made_free hh1 nh1
    have ht1' := made_free ht1 nt1
    have vI : LInv Hg K (CF K) H6 a bl ml ns ⟨p0, h0, t0, m0, mh0, mt0⟩ ⟨p1, h1, t1, m1, mh1, mt1⟩ := lv_start hg0 scr K1 fr0 hp1 hh1' ht1' K2 fr1 hbl K3 B3 hm0 hmh0 hmt0 k4 md0 hm1 hmh1 hmt1 k5 md1 hml K6 B6
    obtain ⟨x, ex⟩ : ∃ x : Ad, x = ⟨p0, h0, t0, m0, mh0, mt0⟩ := ⟨_, rfl⟩
    obtain ⟨y, ey⟩ : ∃ y : Ad, y = ⟨p1, h1, t1, m1, mh1, mt1⟩ := ⟨_, rfl⟩
    rw [← ex, ← ey] at vI
    -- the cells
    refine ⟨_, rfl, a, _, rfl, .inl vI.scr.sq, _, _, rfl, _, _, rfl, _, rfl, ?_, ?_, for_range (lo := 0) (n := _) (fun i σ H' => ∃ v3 v4 v5 v6 v7 v8 v9, σ = [some (.ref a), some (.ref bl), some (.ref ml), v3, v4, v5, v6, v7, v8, v9, none, none] ∧ LInv Hg K (CF K) H' a bl ml ns x y) ⟨_, _, _, _, _, _, _, rfl, vI⟩ ?_ ?_⟩
    · rw [List.length_map]; split <;> split <;> omega
    · rw [List.length_map]; split <;> split <;> omega
    · rintro i σ H7 hi ⟨v3, v4, v5, v6, w7, w8, w9, rfl, v7⟩
      refine ⟨_, rfl, _, rfl, a, ns, i, by rw [Int.zero_add], v7.scr.sq, fun z => ⟨z, rfl, fun b H8 hb k8 bx8 => ?_⟩⟩
      have ap := v7.apart hb
      have v8 := v7.kp k8.kp fun c hc => by rw [List.mem_singleton.mp hc]; exact hb
      refine ⟨_, rfl, b, 0, 2, rfl, bx8, by decide, by decide, by decide, fun H9 at_ k9 bx9 at0 at1 => ?_⟩
      have v9 := v8.kpb k9.kp (box_nf bx8) ap
      refine ⟨_, rfl, b, 1, 2, rfl, bx9, by decide, by decide, by decide, fun H9 as_ k9 bx9' as0 as1 => ?_⟩
      have v9 := v9.kpb k9.kp (box_nf bx9) ap
      refine ⟨_, rfl, b, 2, 3, rfl, bx9', by decide, by decide, by decide, fun H9 fi k9 bx9'' fi0 fi1 => ?_⟩
      have v9 := v9.kpb k9.kp (box_nf bx9') ap
      refine ⟨_, rfl, b, 3, 5, rfl, bx9'', by decide, by decide, by decide, fun H10 d k10 bx10 dd0 dd1 => ?_⟩
      have v10 := v9.kpb k10.kp (box_nf bx9'') ap
      refine ⟨_, _, rfl, rfl, _, rfl, by omega, by omega, for_range (lo := 0) (n := _) (fun j σ H' => ∃ v8 v9, σ = [some (.ref a), some (.ref bl), some (.ref ml), some (.int (0 + (i : Int))), some (.ref b), some (.int at_), some (.int as_), some (.int fi), v8, v9, none, none] ∧ LInv Hg K (CF K) H' a bl ml ns x y ∧ BoxAt H' b (4 + 3 * (j : Int))) ⟨_, _, rfl, v10, bx10.more (by omega)⟩ ?_ ?_⟩
      · rintro j σ H11 hj ⟨v8, v9, rfl, v11, bx11⟩
        have hat : at_ = 0 ∨ at_ = 1 := by omega
        have hj3 : j < 5 := by omega
        obtain ⟨hsx, tsx, prx, gx⟩ := v11.rx
        obtain ⟨hsy, tsy, pry, gy⟩ := v11.ry
        have nf := box_nf bx11
        rcases hat with rfl | rfl
        · exact ⟨_, rfl, _, rfl, _, rfl, bl, _, _, _, rfl, rfl, SqL.of v11.eb, rfl, _, rfl, _, rfl, ml, _, _, _, rfl, rfl, SqL.of v11.em, rfl, b, x.p, x.h, x.t, x.m, x.mh, x.mt, hsx, tsx, _, rfl, bx11, by omega, prx, gx, ap.2.2.1, fun H12 hs' ts' k12 bx12 pr12 g12 => ⟨_, _, rfl, v11.fst k12 nf ⟨ap.1, ap.2.1, ap.2.2.2⟩ ⟨hs', ts', pr12, g12⟩, bx12.more (by omega)⟩⟩
        · exact ⟨_, rfl, _, rfl, _, rfl, bl, _, _, _, rfl, rfl, SqL.of v11.eb, rfl, _, rfl, _, rfl, ml, _, _, _, rfl, rfl, SqL.of v11.em, rfl, b, y.p, y.h, y.t, y.m, y.mh, y.mt, hsy, tsy, _, rfl, bx11, by omega, pry, gy, ap.2.2.2, fun H12 hs' ts' k12 bx12 pr12 g12 => ⟨_, _, rfl, v11.snd k12 nf ⟨ap.1, ap.2.1, ap.2.2.1⟩ ⟨hs', ts', pr12, g12⟩, bx12.more (by omega)⟩⟩
      · rintro σ H11 ⟨v8, v9, rfl, v11, bx11⟩
        have has : as_ = 0 ∨ as_ = 1 := by omega
        obtain ⟨z, ez, rz⟩ : ∃ z : Ad, (atI [V.ref x.p, V.ref y.p] as_ = some (.ref z.p) ∧ atI [V.ref x.m, V.ref y.m] as_ = some (.ref z.m)) ∧ (z = x ∨ z = y) := by
          rcases has with rfl | rfl
          · exact ⟨x, ⟨rfl, rfl⟩, .inl rfl⟩
          · exact ⟨y, ⟨rfl, rfl⟩, .inr rfl⟩
        have rz2 : ∀ {H'}, LInv Hg K (CF K) H' a bl ml ns x y → PrA Hg (CF K) H' z := fun v => by
          rcases rz with rfl | rfl
          · exact v.rx
          · exact v.ry
        obtain ⟨hsz, tsz, prz, gz⟩ := rz2 v11
        have wz := prz.f.wf.small
        refine ⟨_, rfl, _, rfl, _, rfl, ml, _, _, _, rfl, rfl, SqL.of v11.em, ez.2, z.m, _, rfl, prz.m.getH, z.mh, _, rfl, .inl (SqL.of prz.m.lh), _, _, _, _, rfl, rg3 (i := fi) (j := ((hsz.map enc).length : Nat)) (by omega) (by omega) (by omega) (by rw [List.length_map]; omega), ?_⟩
        refine for_rangeC (lo := fi) (c := 3) (n := _) (fun j σ H' => ∃ v9, σ = [some (.ref a), some (.ref bl), some (.ref ml), some (.int (0 + (i : Int))), some (.ref b), some (.int at_), some (.int as_), some (.int fi), v8, v9, none, none] ∧ Kp [] H11 H') ⟨_, rfl, Kp.refl⟩ ?_ ?_
        · rintro j σ H12 hj ⟨v9, rfl, k12⟩
          have v12 := v11.kp0 k12
          have prz' := prz.kp0 k12
          obtain ⟨q0, q1⟩ := rg3_in (by omega) hj
          rw [List.length_map] at q1
          obtain ⟨f, ef⟩ : ∃ f : Nat, fi + (j : Int) * 3 = f := ⟨(fi + (j : Int) * 3).toNat, by omega⟩
          refine ⟨_, rfl, _, rfl, bl, _, _, _, rfl, rfl, SqL.of v12.eb, ez.1, _, rfl, _, rfl, ml, _, _, _, rfl, rfl, SqL.of v12.em, ez.2, _, rfl, z.p, z.h, z.t, z.m, z.mh, z.mt, hsz, tsz, f, by rw [ef]; rfl, prz', by omega, fun H13 k13 => ⟨_, rfl, iteF ⟨_, rfl, k12.trans k13⟩⟩⟩
        · rintro σ H12 ⟨v9, rfl, k12⟩
          exact ⟨_, _, _, _, _, _, _, rfl, v11.kp0 k12⟩
    · rintro σ H7 ⟨v3, v4, v5, v6, w7, w8, w9, rfl, v7⟩
      refine ⟨_, rfl, _, rfl, bl, ml, _, _, rfl, SqL.of v7.eb, SqL.of v7.em, RZ.for_zipL (xs := [.ref x.p, .ref y.p]) (ys := [.ref x.m, .ref y.m]) rfl (fun i σ H' => ∃ v9 v10 v11, σ = [some (.ref a), some (.ref bl), some (.ref ml), v3, v4, v5, v6, w7, w8, v9, v10, v11] ∧ LInv Hg K (CF K) H' a bl ml ns x y) ⟨_, _, _, rfl, v7⟩ (fun i σ H' ⟨_, _, _, _, v⟩ => ⟨SqL.of v.eb, SqL.of v.em⟩) ?_ ?_⟩
      · rintro i u v T σ H8 hu hv ⟨v9, v10, v11, rfl, v8⟩ hT
        obtain ⟨z, eu, ev, rz⟩ : ∃ z : Ad, u = .ref z.p ∧ v = .ref z.m ∧ (z = x ∨ z = y) := by
          match i, hu, hv with
          | 0, hu, hv => exact ⟨x, (Option.some.inj hu).symm, (Option.some.inj hv).symm, .inl rfl⟩
          | 1, hu, hv => exact ⟨y, (Option.some.inj hu).symm, (Option.some.inj hv).symm, .inr rfl⟩
          | n + 2, hu, hv => simp at hu
        subst eu ev
        have k9 : Kp [] H8 (upd H8 T (.tup [.ref z.p, .ref z.m])) := fun b o e _ => (upd_ne (ne_of_none e hT)).trans e
        have eT : upd H8 T (.tup [.ref z.p, .ref z.m]) T = some (.tup [.ref z.p, .ref z.m]) := upd_same
        generalize upd H8 T (.tup [.ref z.p, .ref z.m]) = H9 at *
        have v9' := v8.kp0 k9
        have rz2 : PrA Hg (CF K) H9 z := by
          rcases rz with rfl | rfl
          · exact v9'.rx
          · exact v9'.ry
        obtain ⟨hsz, tsz, prz, gz⟩ := rz2
        have wz := prz.f.wf.small
        refine ⟨T, _, rfl, SqT.of eT, rfl, _, _, rfl, _, _, rfl, rfl, ?_⟩
        refine ⟨_, rfl, _, rfl, z.p, z.h, z.t, z.m, z.mh, z.mt, hsz, tsz, rfl, prz, gz, fun H10 k10 => ⟨_, rfl, iteF ?_⟩⟩
        have prz' := prz.kp0 k10
        refine ⟨_, rfl, z.m, _, rfl, prz'.m.getH, z.mh, _, rfl, .inl (SqL.of prz'.m.lh), _, rfl, (by rw [List.length_map]; omega), (by rw [List.length_map]; omega), for_range (lo := 0) (n := _) (fun j σ H' => ∃ v9, σ = [some (.ref a), some (.ref bl), some (.ref ml), v3, v4, v5, v6, w7, w8, v9, some (.ref z.p), some (.ref z.m)] ∧ Kp [] H10 H') ⟨_, rfl, Kp.refl⟩ ?_ ?_⟩
        · rintro j σ H11 hj ⟨v9, rfl, k11⟩
          have hj2 : j < hsz.length := by simpa using hj
          refine ⟨_, rfl, _, rfl, _, rfl, z.p, z.h, z.t, z.m, z.mh, z.mt, hsz, tsz, j, by rw [Int.zero_add]; rfl, prz'.kp0 k11, hj2, fun H12 k12 => ⟨_, rfl, iteF ⟨_, rfl, k11.trans k12⟩⟩⟩
        · rintro σ H11 ⟨v9, rfl, k11⟩
          exact ⟨_, _, _, rfl, (v9'.kp0 k10).kp0 k11⟩
      · rintro σ H8 ⟨v9, v10, v11, rfl, v8⟩
        exact q H8
end

end Lw
namespace Lw
open PySem PySem.Spec L2 FG
open PyProof.Rows hiding St
section
variable {P : Program} {w : World} {K : PySem.W.Frag} {mg : Str → Option Value} {base : Heap}
theorem law_ok (T : Tx K mg) {fd : FuncData} (F : Fun K "law" "law" s_law (He.ga K "law") fd) : FnG P w K mg base 7 (He.ga K "law") fd ["_law_script"] (spLaw K) := by
  have c_is_number : Cal P w K mg base 1 "is_number" spNum := Cal.of T.g_is_number T.F_is_number (fun F => F.binds (ps := ["thing"]) fun _ _ _ _ _ _ us hl => match us, hl with | [_], _ => rfl) (ok_number T)
  have c_is_whole : Cal P w K mg base 2 "is_whole" spWhole := Cal.of T.g_is_whole T.F_is_whole (fun F => F.binds (ps := ["thing", "low", "high"]) fun _ _ _ _ _ _ us hl => match us, hl with | [_, _, _], _ => rfl) fun F => ok_whole T F c_is_number
  have k_Frames : Mak P w K mg base 1 "Frames" (CF K) (spFInit (CF K)) := Mak.of T.k_Frames T.g_Frames T.F_Frames___init__ (fun F => F.binds (ps := ["self"]) fun _ _ _ _ _ _ us hl => match us, hl with | [_], _ => rfl) (ok_finit T)
  have m_need_begun : Met P w K mg base 3 (CF K) "need_begun" (spBeg (CF K)) := Met.of T.c_Frames T.m_Frames_need_begun T.F_Frames_need_begun (fun F => F.binds (ps := ["self", "frame"]) fun _ _ _ _ _ _ us hl => match us, hl with | [_, _], _ => rfl) fun F => ok_begun_ T F c_is_whole
  have m_need_standing : Met P w K mg base 4 (CF K) "need_standing" (spStd (CF K)) := Met.of T.c_Frames T.m_Frames_need_standing T.F_Frames_need_standing (fun F => F.binds (ps := ["self", "frame"]) fun _ _ _ _ _ _ us hl => match us, hl with | [_, _], _ => rfl) fun F => ok_std T F m_need_begun
  have m_need_more : Met P w K mg base 1 (CF K) "need_more" (spMore (CF K)) := Met.of T.c_Frames T.m_Frames_need_more T.F_Frames_need_more (fun F => F.binds (ps := ["self"]) fun _ _ _ _ _ _ us hl => match us, hl with | [_], _ => rfl) (ok_more T)
  have m_clear : Met P w K mg base 1 (CF K) "clear" spClear := Met.of T.c_Frames T.m_Frames_clear T.F_Frames_clear (fun F => F.binds (ps := ["self", "frame"]) fun _ _ _ _ _ _ us hl => match us, hl with | [_, _], _ => rfl) (ok_clear T)
  have m_begun : Met P w K mg base 1 (CF K) "begun" (spBegun (CF K)) := Met.of T.c_Frames T.m_Frames_begun T.F_Frames_begun (fun F => F.binds (ps := ["self"]) fun _ _ _ _ _ _ us hl => match us, hl with | [_], _ => rfl) (ok_nbegun T)
  have m_ended_by : Met P w K mg base 4 (CF K) "ended_by" (spBy (CF K)) := Met.of T.c_Frames T.m_Frames_ended_by T.F_Frames_ended_by (fun F => F.binds (ps := ["self", "frame"]) fun _ _ _ _ _ _ us hl => match us, hl with | [_, _], _ => rfl) fun F => ok_by T F m_need_begun
  have m_stands : Met P w K mg base 3 (CF K) "stands" (spStands (CF K)) := Met.of T.c_Frames T.m_Frames_stands T.F_Frames_stands (fun F => F.binds (ps := ["self", "thing"]) fun _ _ _ _ _ _ us hl => match us, hl with | [_, _], _ => rfl) fun F => ok_stands T F c_is_whole
  have m_begin : Met P w K mg base 5 (CF K) "begin" (spBegin (CF K)) := Met.of T.c_Frames T.m_Frames_begin T.F_Frames_begin (fun F => F.binds (ps := ["self", "frame"]) fun _ _ _ _ _ _ us hl => match us, hl with | [_, _], _ => rfl) fun F => ok_begin T F m_need_standing m_need_more
  have m_standing : Met P w K mg base 1 (CF K) "standing" (spStanding (CF K)) := Met.of T.c_Frames T.m_Frames_standing T.F_Frames_standing (fun F => F.binds (ps := ["self"]) fun _ _ _ _ _ _ us hl => match us, hl with | [_], _ => rfl) (ok_standing T)
  have m_row : Met P w K mg base 4 (CF K) "row" (spRow (CF K)) := Met.of T.c_Frames T.m_Frames_row T.F_Frames_row (fun F => F.binds (ps := ["self", "frame"]) fun _ _ _ _ _ _ us hl => match us, hl with | [_, _], _ => rfl) fun F => ok_row T F m_need_begun
  have m_finish : Met P w K mg base 5 (CF K) "finish" (spFin (CF K)) := Met.of T.c_Frames T.m_Frames_finish T.F_Frames_finish (fun F => F.binds (ps := ["self", "frame"]) fun _ _ _ _ _ _ us hl => match us, hl with | [_, _], _ => rfl) fun F => ok_finish T F m_need_standing m_standing m_row m_clear
  have c__law_cell : Cal P w K mg base 1 "_law_cell" (spCell K) := Cal.of T.g__law_cell T.F__law_cell (fun F => F.binds (ps := ["_law_script", "_law_k"]) fun _ _ _ _ _ _ us hl => match us, hl with | [_, _], _ => rfl) (ok_cell T)
  have c__law_box : Cal P w K mg base 1 "_law_box" spBox := Cal.of T.g__law_box T.F__law_box (fun F => F.binds (ps := ["_law_cell_here"]) fun _ _ _ _ _ _ us hl => match us, hl with | [_], _ => rfl) (ok_box T)
  have c__law_take : Cal P w K mg base 1 "_law_take" spTake := Cal.of T.g__law_take T.F__law_take (fun F => F.binds (ps := ["_law_box_here", "_law_many"]) fun _ _ _ _ _ _ us hl => match us, hl with | [_, _], _ => rfl) (ok_take T)
  have c__law_model : Cal P w K mg base 1 "_law_model" spModel := Cal.of T.g__law_model T.F__law_model (fun F => F.binds (ps := []) fun _ _ _ _ _ _ us hl => match us, hl with | [], _ => rfl) (ok_model T)
  have c__law_standing : Cal P w K mg base 1 "_law_standing" spLStanding := Cal.of T.g__law_standing T.F__law_standing (fun F => F.binds (ps := ["_law_model_here"]) fun _ _ _ _ _ _ us hl => match us, hl with | [_], _ => rfl) (ok_lstanding T)
  have c__law_row : Cal P w K mg base 1 "_law_row" spLRow := Cal.of T.g__law_row T.F__law_row (fun F => F.binds (ps := ["_law_model_here", "_law_frame"]) fun _ _ _ _ _ _ us hl => match us, hl with | [_, _], _ => rfl) (ok_lrow T)
  have c__law_begin : Cal P w K mg base 1 "_law_begin" spLBegin := Cal.of T.g__law_begin T.F__law_begin (fun F => F.binds (ps := ["_law_model_here", "_law_frame"]) fun _ _ _ _ _ _ us hl => match us, hl with | [_, _], _ => rfl) (ok_lbegin T)
  have c__law_finish : Cal P w K mg base 2 "_law_finish" spLFin := Cal.of T.g__law_finish T.F__law_finish (fun F => F.binds (ps := ["_law_model_here", "_law_frame"]) fun _ _ _ _ _ _ us hl => match us, hl with | [_, _], _ => rfl) fun F => ok_lfinish T F c__law_standing c__law_row
  have c__law_one : Cal P w K mg base 2 "_law_one" spOne := Cal.of T.g__law_one T.F__law_one (fun F => F.binds (ps := ["_law_box_here", "_law_some"]) fun _ _ _ _ _ _ us hl => match us, hl with | [_, _], _ => rfl) fun F => ok_one T F c__law_take
  have c__law_deed : Cal P w K mg base 6 "_law_deed" (spDeed (CF K)) := Cal.of T.g__law_deed T.F__law_deed (fun F => F.binds (ps := ["_law_box_here", "_law_frames", "_law_model_here"]) fun _ _ _ _ _ _ us hl => match us, hl with | [_, _, _], _ => rfl) fun F => ok_deed T F c__law_take c__law_one c__law_standing c__law_finish c__law_begin m_finish m_begin
  have m_inside : Met P w K mg base 4 (CF K) "inside" (spInside (CF K)) := Met.of T.c_Frames T.m_Frames_inside T.F_Frames_inside (fun F => F.binds (ps := ["self", "frame"]) fun _ _ _ _ _ _ us hl => match us, hl with | [_, _], _ => rfl) fun F => ok_inside T F m_need_begun
  have m_within : Met P w K mg base 4 (CF K) "within" (spWithin (CF K)) := Met.of T.c_Frames T.m_Frames_within T.F_Frames_within (fun F => F.binds (ps := ["self", "frame"]) fun _ _ _ _ _ _ us hl => match us, hl with | [_, _], _ => rfl) fun F => ok_within T F m_need_begun m_standing
  have c__law_within : Cal P w K mg base 2 "_law_within" spLWithin := Cal.of T.g__law_within T.F__law_within (fun F => F.binds (ps := ["_law_model_here", "_law_frame"]) fun _ _ _ _ _ _ us hl => match us, hl with | [_, _], _ => rfl) fun F => ok_lwithin T F c__law_standing
  have c__law_told_right : Cal P w K mg base 5 "_law_told_right" (spTold (CF K)) := Cal.of T.g__law_told_right T.F__law_told_right (fun F => F.binds (ps := ["_law_frames", "_law_model_here", "_law_frame"]) fun _ _ _ _ _ _ us hl => match us, hl with | [_, _, _], _ => rfl) fun F => ok_told T F c__law_row c__law_within m_row m_within m_inside m_ended_by
  have c__law_hangs_right : Cal P w K mg base 5 "_law_hangs_right" (spHangs (CF K)) := Cal.of T.g__law_hangs_right T.F__law_hangs_right (fun F => F.binds (ps := ["_law_frames", "_law_model_here"]) fun _ _ _ _ _ _ us hl => match us, hl with | [_, _], _ => rfl) fun F => ok_hangs T F m_row m_within m_stands m_ended_by
  exact ok_law T F k_Frames c__law_model c__law_cell c__law_box c__law_take c__law_deed c__law_told_right c__law_hangs_right
end

end Lw
open PySem PySem.W PySem.Calls PyProof.Rows
set_option maxHeartbeats 0 in
theorem PySem.Challenge.cw_framerooms_k06_whole_frames_in_frames_holds : PySem.Challenge.rw_framerooms_k06_whole_frames_in_frames.Holds := by
  w_on; o_law
  refine HandSHeadRun.head_any (r := OpenLaw.row PySem.Challenge.rw_framerooms_k06_whole_frames_in_frames) (q := view (OpenLaw.row PySem.Challenge.rw_framerooms_k06_whole_frames_in_frames).prog [26]) (H := Lw.hk) (ob := Lw.ob) (M := 4500) (loose := Lw.names0) (d := HandSHeadRun.topDef (OpenLaw.row PySem.Challenge.rw_framerooms_k06_whole_frames_in_frames).prog 26) (kwd := []) Lw.ob_eq
    (by kernel_rfl) (fun s => by kernel_rfl) Lw.run (by kernel_rfl) (by kernel_rfl) (by kernel_rfl) (by rfl) (by first | assumption | decide +kernel) (by decide +kernel) ⟨rfl, rfl, rfl, rfl, rfl, by decide +kernel⟩ ?hw ?hc
  case hw => w_witness2
  case hc =>
    refine FG.walk_G (l := PySem.Challenge.rw_framerooms_k06_whole_frames_in_frames) (n := 63) (k := 7) (x := "_law_script") rfl (by decide) (by kernel_rfl) ⟨rfl, by decide, by decide⟩ ?F
    intro w mg fa h Y G hmg0
    obtain ⟨K, KX, c⟩ := Y
    have hmg : mg ("law" : PySem.Str) = some (.ref fa) := by
      have e : (HandSHeadRun.topDef (OpenLaw.row PySem.Challenge.rw_framerooms_k06_whole_frames_in_frames).prog 26).name = ("law" : PySem.Str) := by kernel_rfl
      rw [← e]
      exact hmg0
    have T : Lw.Tx K mg := Lw.tx_of KX G c
    have e := hmg.symm.trans T.g_law
    cases e
    obtain ⟨fd, F⟩ := T.F_law
    have b := F.binds (ps := ["_law_script"]) fun _ _ _ _ _ _ us hl => match us, hl with | [_], _ => rfl
    refine ⟨K, fd, Lw.spLaw K, KX, fun s u => ?_, fun H a ns hl bits hO hS => ⟨a, ns, rfl, hl, Lw.Scr.of hO hS, fun _ => rfl⟩, fun base _ _ => Lw.law_ok T F⟩
    have F2 := F
    obtain ⟨oc, od, kV, doc, pm, an, cdv, ct, osl, rfl, lk, hcd⟩ := F2.ex
    exact BindsTo.of_eq rfl
