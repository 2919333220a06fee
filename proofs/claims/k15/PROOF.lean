import PyProof.Rows.All
import Wide.All
import OpenK.AllK
import Wide.FinOn
import HandS.ForMost
import HandS.Exc
import HandS.ExcOwn
import HandS.ExcInit
import HandS.ExcIs
import HandS.ExcField
import KE.KExcIs
import HandS.TryOnly
import HandS.TryMany
import HandS.WordsExc
import HandS.Defaults
import HandS.Flow
import HandS.Style
import HandS.More
import HandS.Wide
import HandS.Walk
import HandS.Conv
import PyProof.DictMoreH
import HandS.DictTup
import HandS.DictSubView
import HandS.HotCalls
import KE.DataFind
import KE.KDictCopyH
import HandS.Zip
import HandS.Rev
import HandS.IsInst
import HandS.EndBits
import HandS.Head0
import HandS.Head1
import HandS.Head2
import HandS.HeadEnd
import HandS.HeadHook1
import HandS.HeadHook2
import HandS.HeadHook3
import HandS.HeadHook4
import HandS.Deep
import PySem.Challenge.RW_framerooms_k15_pictures_and_twins
set_option Elab.async false
set_option linter.all false
set_option maxRecDepth 100000
set_option maxHeartbeats 4000000
/-! GBase: calls whose frames know that no repr is running (guards), for defs that may raise; repr of data. Own layer over HandS. -/
namespace FG
open PySem PySem.Spec L2
open PyProof.Rows hiding St

/-- room for calls, and no guard stands around -/
structure RG (k : Nat) (A : Around) : Prop where
  r : Room k A
  g : A.guards = some []
theorem RG.mono {j k : Nat} {A : Around} (h : RG k A) (q : j ≤ k := by decide) : RG j A := ⟨h.r.mono q, h.g⟩
theorem RG.hu {k : Nat} {A : Around} (h : RG k A) : A.units + 1 < cLine := hu_of h.r
theorem RG.u65 {k : Nat} {A : Around} (h : RG k A) : A.units + 65 < cLine := by have := h.r.un; omega

/-- a def's promise where the guards are known -/
structure FnG (P : Program) (w : World) (K : PySem.W.Frag) (mg : Str → Option Value) (base : Heap) (k : Nat) (f : Addr) (fd : FuncData) (ps : List Str) (sp : Sp) : Prop where
  nargs : ∀ vs H Q E, sp vs H Q E → vs.length = ps.length
  goes : ∀ (A : Around) (outer : List Env) (s : Shared) (H : Hp) (ar : Args) (us : List Value) (vs : List V) (Q : VK) (E : XK),
    RG k A → Env0 P w K mg base A outer s H → BindsTo s fd ar (ps.zip us) → Vals vs us → sp vs H Q E → codeAny (model P w) A (.call (.ref f) ar) (CR (L2.CX P w) outer P w H s Q E) s
theorem FnG.weaker {P : Program} {w : World} {K : PySem.W.Frag} {mg : Str → Option Value} {base : Heap} {k : Nat} {f : Addr} {fd : FuncData} {ps : List Str} {sp sp' : Sp} (F : FnG P w K mg base k f fd ps sp)
    (h : ∀ vs H Q E, sp' vs H Q E → sp vs H Q E) : FnG P w K mg base k f fd ps sp' :=
  ⟨fun vs H Q E z => F.nargs vs H Q E (h _ _ _ _ z), fun A outer s H ar us vs Q E a b c d z => F.goes A outer s H ar us vs Q E a b c d (h _ _ _ _ z)⟩

section
variable {P : Program} {w : World} {K : PySem.W.Frag} {mg : Str → Option Value} {base : Heap}
/-- a def of the text, by its body -/
theorem FnG.of {x qual : Str} {st : Stmt} {f : Addr} {fd : FuncData} {N ps : List Str} {k : Nat} {sp : Sp} (F : Fun K x qual st f fd) (S : FnScope N ps (defScope st)) (hn : ∀ vs H Q E, sp vs H Q E → vs.length = ps.length)
    (hb : ∀ (cdv : Value) (A : Around) (outer : List Env) (s : Shared) (H : Hp) (vs : List V) (Q : VK) (E : XK), RG k (A.deeper (envOfC qual (defScope st) s.heap.objs.size f cdv)) → sp vs H Q E →
      ∃ t, PSs (cxOf (L2.CX P w) P w K mg base N qual (defScope st) f cdv A outer s H E) (defBody st) t ∧ t { nx := fun _ H' => Q .non H', rt := Q } (start N vs) H) : FnG P w K mg base (k + 1) f fd ps sp := by
  obtain ⟨oc, od, kV, doc, pm, an, cdv, ct, osl, rfl, lk, hcd⟩ := F.ex
  refine ⟨hn, fun A outer s H ar us vs Q E hg env0 bnd rel hsp => ?_⟩
  have len := hn _ _ _ _ hsp
  have inK : K.In s.heap := env0.mod.kin.keeps fun b o z => (env0.bs b o z).1
  have nol : s.heap.NoLimit := env0.mod.nolimit.keeps fun b o z => (env0.bs b o z).1
  have hk : ∀ y ∈ ps.zip us, (defScope st).names.lookup y.1 = some .local ∨ ((defScope st).names.lookup y.1 = some .cell ∧ ((cellsFrom (s.heap.objs.size + 1) (defScope st).names []).lookup y.1).isSome = true) := by
    rintro ⟨n, v⟩ hy
    exact (S.par n (List.of_mem_zip hy).1).elim .inl fun q => .inr ⟨q, PySem.W.cellsFrom_some _ _ _ (.inl q)⟩
  refine codeAny_call_function hg.r.depth (inK _ _ lk) rfl S.co S.gen rfl (PySem.W.codeRec_of inK hcd) (bnd _ _ _ _ ?_)
  refine wpAny_newFunctionEnv_cells S.kind hk fun env ee s1 inc => ?_
  subst ee
  refine ⟨nol.keeps inc.toInCall.keep, codeAny_func ?_⟩
  obtain ⟨t, ht, hq⟩ := hb cdv A outer s H vs Q E ⟨hg.r.deeper _, hg.g⟩ hsp
  have I0 : Inv (cxOf (L2.CX P w) P w K mg base N qual (defScope st) f cdv A outer s H E) [] (start N vs) H s1 := inv_start S hg.r.hd env0 len rel inc
  refine wpAny_mono (ht.run [] s1 (start N vs) H _ I0 hq) (fun fl s2 hs => ?_) fun _ _ hs => hs
  have fin : ∀ {σ2 : St} {H2 : Hp} {v : V} {u : Value}, Inv (cxOf (L2.CX P w) P w K mg base N qual (defScope st) f cdv A outer s H E) [] σ2 H2 s2 → RelV v u → Q v H2 → CE outer P w H s Q u s2 := by
    intro σ2 H2 v u J rv q
    exact ⟨v, H2, J.os, J.bare, J.base, J.hok, rv, q⟩
  match fl, hs with
  | .ret u, ⟨v, σ2, H2, J, rv, q⟩ => exact fin J rv q
  | .next, ⟨σ2, H2, J, q⟩ => exact fin (v := V.non) (u := Value.none) J rfl q
  | .brk, ⟨_, _, _, q⟩ => exact q.elim
  | .cont, ⟨_, _, _, q⟩ => exact q.elim
end

/-! ### defs, methods, classes as their callers see them -/
/-- the module's def x keeps sp -/
structure Cal (P : Program) (w : World) (K : PySem.W.Frag) (mg : Str → Option Value) (base : Heap) (k : Nat) (x : Str) (sp : Sp) : Prop where
  ex : ∃ (f : Addr) (fd : FuncData) (ps : List Str), FnG P w K mg base k f fd ps sp ∧ mg x = some (.ref f) ∧ PySem.W.keepIn K (.ref f) = true ∧ Binds K fd ps []
/-- the method m of the class at C keeps sp -/
structure Met (P : Program) (w : World) (K : PySem.W.Frag) (mg : Str → Option Value) (base : Heap) (k : Nat) (C : Addr) (m : Str) (sp : Sp) : Prop where
  ex : ∃ (f : Addr) (fd : FuncData) (ps : List Str), Cls K C ∧ Meth K C m f ∧ FnG P w K mg base k f fd ps sp ∧ Binds K fd ps []
/-- the class x, at C, is made by an __init__ that keeps sp -/
structure Mak (P : Program) (w : World) (K : PySem.W.Frag) (mg : Str → Option Value) (base : Heap) (k : Nat) (x : Str) (C : Addr) (sp : Sp) : Prop where
  ex : ∃ (f : Addr) (fd : FuncData) (ps : List Str), Mk K C f ∧ FnG P w K mg base k f fd ps sp ∧ mg x = some (.ref C) ∧ Binds K fd ps []

theorem make_guards {A : Around} {C : Addr} {us : List Value} {kw : List (Str × Value)} : (A.under (.builtin "type.__call__" ⟨.ref C :: us, kw⟩)).guards = A.guards := by
  first | rfl | simp [Around.under, Code.guards, Code.isGuard, guardIds, pushGuards]

/-- a call's reading: the arguments, then the promise; W: what is wanted of an exception -/
def tG (sp : Sp) (W : WX) (t : TA) : TE := fun σ H Q => t σ H fun vs H1 => sp vs H1 Q (fun cls d H2 => W cls d σ H2)
/-- o.m(..) -/
def tGm (C : Addr) (m : Str) (sp : Sp) (W : WX) (ta : TE) (t : TA) : TE := fun σ H Q => ta σ H fun x H1 => ∃ a dx fs, x = .ref a ∧ H1 a = some (.ins C dx fs) ∧ fs.lookup m = none ∧
  t σ H1 fun vs H2 => sp (x :: vs) H2 Q (fun cls d H3 => W cls d σ H3)
/-- C(..) -/
def tGk (C : Addr) (sp : Sp) (W : WX) (t : TA) : TE := fun σ H Q => t σ H fun vs H1 => ∀ x dx, H1 x = none → H1 dx = none → dx ≠ x →
  sp (.ref x :: vs) (upd (upd H1 dx (.own x)) x (.ins C dx [])) (fun v H2 => v = .non ∧ Q (.ref x) H2) (fun cls d H2 => W cls d σ H2)

section
variable {X : Cx} {k : Nat} {f C : Addr} {fd : FuncData} {ps : List Str} {sp : Sp} {W : WX} {x m : Str} {p pos apos : Pos} {e o : Expr} {es : List Expr} {ta : TE} {t : TA}

theorem runs {pins : List (Addr × Obj)} {σ : St} {H : Hp} {s : Shared} {Q : VK} {us : List Value} {vs : List V} (F : FnG X.prog X.w X.K X.mg X.base k f fd ps sp) (hr : RG k X.A) (hb : Binds X.K fd ps []) (tk : Takes X W)
    (I : Inv X pins σ H s) (r : Vals vs us) (h : sp vs H Q (fun cls d H2 => W cls d σ H2)) : wpAny (model X.prog X.w) X.A (call (.ref f) us) (EP X pins σ Q) X.xe s := by
  have ln : us.length = ps.length := r.length.symm.trans (F.nargs _ _ _ _ h)
  have b := hb s us I.kIn (by simpa using ln)
  rw [List.append_nil] at b
  refine wpAny_call (codeAny_mono (F.goes X.A X.stack s H ⟨us, []⟩ us vs Q _ hr I.env0 b r h) fun q s2 hq => ?_)
  match q, hq with
  | .error e, hq => exact passAt tk σ pins H s e s2 I hq
  | .ok (.ret u), hq => exact I.after hq
  | .ok .next, hq => exact hq.elim
  | .ok .brk, hq => exact hq.elim
  | .ok .cont, hq => exact hq.elim

theorem gc (c : Cal X.prog X.w X.K X.mg X.base k x sp) (hr : RG k X.A) (tk : Takes X W) (ha : PA X (e :: es) t) (hg : Gl X x := by rfl) (hdb : (x == ("__debug__" : Str)) = false := by decide)
    (he : starEach (e :: es) X.env = (false, eval e X.env) :: starEach es X.env := by rfl) (hpl : (backTo pos (starEach es X.env)).any (·.1) = false := by rfl) : PE X (.Call (.Name x p) (e :: es) [] pos) (tG sp W t) := by
  obtain ⟨f, fd, ps, F, hm, hk, hb⟩ := c.ex
  refine ⟨fun pins s σ H Q I h => wpAny_Call_Name_kw (ld_glob I hg hm ?_ hdb)⟩
  exact PySem.W.callWith_K (h₀ := X.base) I.ok.mod.kin hk (thn (ha.run pos pins s σ H _ I h) fun us s1 ⟨vs, H1, I1, r, q⟩ => ⟨I1.kIn, runs F hr hb tk I1 r q⟩) he hpl
theorem gc0 (c : Cal X.prog X.w X.K X.mg X.base k x sp) (hr : RG k X.A) (tk : Takes X W) (hg : Gl X x := by rfl) (hdb : (x == ("__debug__" : Str)) = false := by decide) : PE X (.Call (.Name x p) [] [] pos) (tG sp W tNil) := by
  obtain ⟨f, fd, ps, F, hm, hk, hb⟩ := c.ex
  exact ⟨fun pins s σ H Q I h => wpAny_Call_Name_kw (ld_glob I hg hm (PySem.W.callWith_K0 I.kIn hk (runs (us := []) F hr hb tk I .nil h)) hdb)⟩

theorem gm {pl : Sem Bool} (c : Met X.prog X.w X.K X.mg X.base k C m sp) (hr : RG k X.A) (tk : Takes X W) (he : PE X o ta) (ha : PA X (e :: es) t)
    (hst : starEach (e :: es) X.env = (false, eval e X.env) :: starEach es X.env := by rfl) (hpl : (backTo pos (starEach es X.env)).any (·.1) = false := by rfl)
    (ht : eval (.Call (.Attribute o m apos) (e :: es) [] pos) X.env = (do let ov ← eval o X.env; standAt apos.atName; let (f, first) ← holding [ov] (getMethod ov m pl); callWith pos f first (backTo pos (starEach (e :: es) X.env)) (backToKw pos (keywordEach [] X.env))) := by rfl) :
    PE X (.Call (.Attribute o m apos) (e :: es) [] pos) (tGm C m sp W ta t) := by
  obtain ⟨f, fd, ps, cl, hm, F, hb⟩ := c.ex
  refine ⟨fun pins s σ H Q I h => PySem.W.methodCall_KW (pl := pl) (thn (he.run pins s σ H _ I h) fun u s1 ⟨x, H1, I1, rx, a, dx, fs, ex, ea, l, q⟩ => ?_) ht⟩
  subst ex
  obtain rfl : u = Value.ref a := rx
  refine getmeth_ok I1 ea cl hm l (PySem.W.callWith_K (first := [.ref a]) (h₀ := X.base) I.ok.mod.kin hm.kp (thn (ha.run pos pins s1 σ H1 _ I1 q) fun us s2 ⟨vs, H2, I2, r, q2⟩ => ⟨I2.kIn, ?_⟩) hst hpl)
  exact runs (us := .ref a :: us) (vs := .ref a :: vs) F hr hb tk I2 (.cons rfl r) q2
theorem gm0 {pl : Sem Bool} (c : Met X.prog X.w X.K X.mg X.base k C m sp) (hr : RG k X.A) (tk : Takes X W) (he : PE X o ta)
    (ht : eval (.Call (.Attribute o m apos) [] [] pos) X.env = (do let ov ← eval o X.env; standAt apos.atName; let (f, first) ← holding [ov] (getMethod ov m pl); callWith pos f first (backTo pos (starEach [] X.env)) (backToKw pos (keywordEach [] X.env))) := by rfl) :
    PE X (.Call (.Attribute o m apos) [] [] pos) (tGm C m sp W ta tNil) := by
  obtain ⟨f, fd, ps, cl, hm, F, hb⟩ := c.ex
  refine ⟨fun pins s σ H Q I h => PySem.W.methodCall_KW (pl := pl) (thn (he.run pins s σ H _ I h) fun u s1 ⟨x, H1, I1, rx, a, dx, fs, ex, ea, l, q⟩ => ?_) ht⟩
  subst ex
  obtain rfl : u = Value.ref a := rx
  exact getmeth_ok I1 ea cl hm l (PySem.W.callWith_K0 (first := [.ref a]) I1.kIn hm.kp (runs (us := [.ref a]) (vs := [.ref a]) F hr hb tk I1 (.cons rfl .nil) q))

theorem makes {pins : List (Addr × Obj)} {σ : St} {H : Hp} {s : Shared} {Q : VK} {us : List Value} {vs : List V} (M : Mk X.K C f) (F : FnG X.prog X.w X.K X.mg X.base k f fd ps sp) (hr : RG (k + 1) X.A) (hb : Binds X.K fd ps []) (tk : Takes X W)
    (I : Inv X pins σ H s) (r : Vals vs us) (h : ∀ x dx, H x = none → H dx = none → dx ≠ x → sp (.ref x :: vs) (upd (upd H dx (.own x)) x (.ins C dx [])) (fun v H2 => v = .non ∧ Q (.ref x) H2) (fun cls d H2 => W cls d σ H2)) :
    wpAny (model X.prog X.w) X.A (call (.ref C) us) (EP X pins σ Q) X.xe s := by
  have hq := h (s.heap.objs.size + 1) s.heap.objs.size (I.hok.fresh (Nat.le_succ _)) (I.hok.fresh (Nat.le_refl _)) (Nat.ne_of_lt (Nat.lt_succ_self _))
  have I2 := Inv.made (C := C) I
  have r2 : Vals (V.ref (s.heap.objs.size + 1) :: vs) (Value.ref (s.heap.objs.size + 1) :: us) := .cons rfl r
  have ln : (Value.ref (s.heap.objs.size + 1) :: us).length = ps.length := r2.length.symm.trans (F.nargs _ _ _ _ hq)
  have b := hb _ (Value.ref (s.heap.objs.size + 1) :: us) I2.kIn (by simpa using ln)
  rw [List.append_nil] at b
  refine wpAny_call (make_map (f := f) I.kIn M.makes M.init (beq_iff_eq.mp M.fn) (codeAny_mono (F.goes _ X.stack _ _ ⟨Value.ref (s.heap.objs.size + 1) :: us, []⟩ (Value.ref (s.heap.objs.size + 1) :: us) _ _ _ ⟨hr.r.make C us [], make_guards.trans hr.g⟩ (I2.env0.make C us []) b r2 hq) fun q s2 hq2 => ?_))
  match q, hq2 with
  | .error e, hq2 => exact passAt tk σ pins _ _ e s2 I2 hq2
  | .ok (.ret u), hq2 =>
    obtain ⟨v, H3, I3, rv, ev, q3⟩ := I2.after hq2
    subst ev
    exact ⟨rv, ⟨V.ref (s.heap.objs.size + 1), H3, I3, rfl, q3⟩⟩
  | .ok .next, hq2 => exact hq2.elim
  | .ok .brk, hq2 => exact hq2.elim
  | .ok .cont, hq2 => exact hq2.elim
theorem gk (c : Mak X.prog X.w X.K X.mg X.base k x C sp) (hr : RG (k + 1) X.A) (tk : Takes X W) (ha : PA X (e :: es) t) (hg : Gl X x := by rfl) (hdb : (x == ("__debug__" : Str)) = false := by decide)
    (he : starEach (e :: es) X.env = (false, eval e X.env) :: starEach es X.env := by rfl) (hpl : (backTo pos (starEach es X.env)).any (·.1) = false := by rfl) : PE X (.Call (.Name x p) (e :: es) [] pos) (tGk C sp W t) := by
  obtain ⟨f, fd, ps, M, F, hm, hb⟩ := c.ex
  refine ⟨fun pins s σ H Q I h => wpAny_Call_Name_kw (ld_glob I hg hm ?_ hdb)⟩
  exact PySem.W.callWith_K (h₀ := X.base) I.ok.mod.kin M.kp (thn (ha.run pos pins s σ H _ I h) fun us s1 ⟨vs, H1, I1, r, q⟩ => ⟨I1.kIn, makes M F hr hb tk I1 r q⟩) he hpl
theorem gk0 (c : Mak X.prog X.w X.K X.mg X.base k x C sp) (hr : RG (k + 1) X.A) (tk : Takes X W) (hg : Gl X x := by rfl) (hdb : (x == ("__debug__" : Str)) = false := by decide) : PE X (.Call (.Name x p) [] [] pos) (tGk C sp W tNil) := by
  obtain ⟨f, fd, ps, M, F, hm, hb⟩ := c.ex
  exact ⟨fun pins s σ H Q I h => wpAny_Call_Name_kw (ld_glob I hg hm (PySem.W.callWith_K0 I.kIn M.kp (makes (us := []) M F hr hb tk I .nil h)) hdb)⟩
end

/-! ### repr -/
section
variable {X : Cx}
/-! data in which an empty dict may lie, all of it tracked -/
mutual
inductive DpE (H : Hp) : V → PyData → Prop
  | non : DpE H .non .none
  | bl (b : Bool) : DpE H (.bl b) (.bool b)
  | int (i : Int) : DpE H (.int i) (.int i)
  | str (x : Str) : DpE H (.str x) (.str x)
  | emp {a : Addr} : H a = some (.dK []) → DpE H (.ref a) (.dict [])
  | lst {a : Addr} {xs : List V} {ds : List PyData} : H a = some (.lst xs) → a ≠ sysModules → DpEs H xs ds → DpE H (.ref a) (.list ds)
  | tup {a : Addr} {xs : List V} {ds : List PyData} : H a = some (.tup xs) → DpEs H xs ds → DpE H (.ref a) (.tuple ds)
inductive DpEs (H : Hp) : List V → List PyData → Prop
  | nil : DpEs H [] []
  | cons {v : V} {vs : List V} {d : PyData} {ds : List PyData} : DpE H v d → DpEs H vs ds → DpEs H (v :: vs) (d :: ds)
end
mutual
theorem DpE.reads {pins : List (Addr × Obj)} {σ : St} {H : Hp} {s : Shared} (I : Inv X pins σ H s) : ∀ (d : PyData) (v : V) (u : Value), DpE H v d → RelV v u → ∃ as, Reads s.heap u d as ∧ sysModules ∉ as
  | .none, _, _, h, r => by
    cases h
    cases r
    exact ⟨_, Reads.none, by simp⟩
  | .bool b, _, _, h, r => by
    cases h
    cases r
    exact ⟨_, Reads.bool b, by simp⟩
  | .int i, _, _, h, r => by
    cases h
    obtain ⟨t, rfl⟩ := r
    exact ⟨_, Reads.int i t, by simp⟩
  | .str x, _, _, h, r => by
    cases h
    obtain ⟨t, rfl⟩ := r
    exact ⟨_, Reads.str x t, by simp⟩
  | .list ds, _, _, h, r => by
    cases h with
    | lst hs hns ha =>
      cases r
      obtain ⟨its, rv, ⟨o, n, ho, hc, _, hd⟩, _⟩ := I.list (SqL.of (K := X.K) hs)
      obtain ⟨as, hr, hn⟩ := DpE.readsAll I ds _ its ha rv
      exact ⟨_, Reads.list ho hc hd hr, by
        rw [List.mem_cons, not_or]
        exact ⟨hns.symm, hn⟩⟩
  | .tuple ds, _, _, h, r => by
    cases h with
    | tup hs ha =>
      cases r
      obtain ⟨its, rv, ⟨o, ho, hc, n, hd⟩, _⟩ := I.tuple (SqT.of (K := X.K) hs)
      obtain ⟨as, hr, hn⟩ := DpE.readsAll I ds _ its ha rv
      exact ⟨_, Reads.tuple ho hc hd hr, hn⟩
  | .dict kvs, _, _, h, r => by
    cases h with
    | emp hs =>
      cases r
      obtain ⟨z, hm, vs, rel, dd⟩ := dk_of I.hok hs
      cases rel
      obtain ⟨o, es, ep, ho, hx, hdt, he, hp, _⟩ := dd
      have e0 : es.toList = [] := by
        cases e : es.toList with
        | nil => rfl
        | cons x y => rw [e] at hp; cases hp
      refine ⟨_, Reads.dict (kvs := []) (as := []) (bs := []) ho hx.1 hdt (by rw [e0]; exact .nil) (by rw [e0]; exact .nil), ?_⟩
      simp only [List.append_nil, List.mem_cons, List.not_mem_nil, or_false]
      exact (beq_eq_false_iff_ne.mp hm).symm
theorem DpE.readsAll {pins : List (Addr × Obj)} {σ : St} {H : Hp} {s : Shared} (I : Inv X pins σ H s) : ∀ (ds : List PyData) (vs : List V) (us : List Value), DpEs H vs ds → Vals vs us → ∃ as, ReadsAll s.heap us ds as ∧ sysModules ∉ as
  | [], _, _, h, r => by
    cases h
    cases r
    exact ⟨_, ReadsAll.nil, by simp⟩
  | d :: ds, _, _, h, r => by
    cases h with
    | cons h1 h2 =>
      cases r with
      | cons r1 r2 =>
        obtain ⟨as, q1, n1⟩ := DpE.reads I d _ _ h1 r1
        obtain ⟨bs, q2, n2⟩ := DpE.readsAll I ds _ _ h2 r2
        exact ⟨_, ReadsAll.cons q1 q2, by rw [List.mem_append, not_or]; exact ⟨n1, n2⟩⟩
end
/-- repr(v), v data: its text -/
structure Shw (K : PySem.W.Frag) (H : Hp) (v : V) (d : PyData) : Prop where
  dp : Dp K H v d ∨ DpE H v d
  ok : d.showable = true
  len : d.shown.length ≤ sizeLine
  dep : d.depth ≤ 60
def rRepr (K : PySem.W.Frag) (vs : List V) (H : Hp) (Q : VK) : Prop := ∃ v d, vs = [v] ∧ Shw K H v d ∧ Q (.str d.shown) H
mutual
theorem dp_plain {K : PySem.W.Frag} {H : Hp} : ∀ (d : PyData) (v : V), Dp K H v d → d.hasDict = false
  | .none, _, _ => by simp only [PyData.hasDict]
  | .bool _, _, _ => by simp only [PyData.hasDict]
  | .int _, _, _ => by simp only [PyData.hasDict]
  | .str _, _, _ => by simp only [PyData.hasDict]
  | .list ds, _, h => by
    cases h with
    | lst _ a => simp only [PyData.hasDict]; exact dp_plains ds _ a
  | .tuple ds, _, h => by
    cases h with
    | tup _ a => simp only [PyData.hasDict]; exact dp_plains ds _ a
  | .dict _, _, h => by cases h
theorem dp_plains {K : PySem.W.Frag} {H : Hp} : ∀ (ds : List PyData) (vs : List V), DpAll K H vs ds → PyData.hasDictAll ds = false
  | [], _, _ => by simp only [PyData.hasDictAll]
  | d :: ds, _, h => by
    cases h with
    | cons a b => simp only [PyData.hasDictAll, dp_plain d _ a, dp_plains ds _ b, Bool.or_self]
end
theorem call_repr {k : Nat} (hr : RG k X.A) : CallR X (.builtin "repr") (rRepr X.K) := by
  intro pins s σ H xs us Q I r h
  obtain ⟨v, d, rfl, ⟨hd, hs, hl, hdp⟩, q⟩ := h
  obtain ⟨u, rfl, ru⟩ := vals1 r
  have un := hr.r.units
  rcases hd with hd | hd
  rotate_left
  · cases hd with
    | non => cases ru; exact PySem.P.repr_of_none ⟨.str _, H, I.tok _, ⟨_, rfl⟩, by simpa only [PyData.shown] using q⟩
    | bl b => cases ru; exact PySem.P.repr_of_bool ⟨.str _, H, I.tok _, ⟨_, rfl⟩, by simpa only [PyData.shown] using q⟩
    | int i =>
      obtain ⟨t, rfl⟩ := ru
      exact PySem.P.repr_of_int (by simpa only [PyData.showable, decide_eq_true_eq] using hs) ⟨.str _, H, I.tok _, ⟨_, rfl⟩, by simpa only [PyData.shown] using q⟩
    | str x =>
      obtain ⟨t, rfl⟩ := ru
      exact PySem.P.repr_of_str ⟨.str _, H, I.tok _, ⟨_, rfl⟩, by simpa only [PyData.shown] using q⟩ (by simpa only [PyData.shown] using hl)
    | emp a =>
      obtain rfl := ru
      obtain ⟨as, rd, nas⟩ := DpE.reads I _ _ _ (DpE.emp a) rfl
      exact repr_of_reads' rd hs (fun _ => nas) hr.g (by omega) (fun _ _ z => z) (fun h' u tk kp => ⟨.str _, H, I.kept kp, ⟨_, rfl⟩, q⟩) hl
    | lst a n b =>
      obtain rfl := ru
      obtain ⟨as, rd, nas⟩ := DpE.reads I _ _ _ (DpE.lst a n b) rfl
      exact repr_of_reads' rd hs (fun _ => nas) hr.g (by omega) (fun _ _ z => z) (fun h' u tk kp => ⟨.str _, H, I.kept kp, ⟨_, rfl⟩, q⟩) hl
    | tup a b =>
      obtain rfl := ru
      obtain ⟨as, rd, nas⟩ := DpE.reads I _ _ _ (DpE.tup a b) rfl
      exact repr_of_reads' rd hs (fun _ => nas) hr.g (by omega) (fun _ _ z => z) (fun h' u tk kp => ⟨.str _, H, I.kept kp, ⟨_, rfl⟩, q⟩) hl
  cases hd with
  | non => cases ru; exact PySem.P.repr_of_none ⟨.str _, H, I.tok _, ⟨_, rfl⟩, by simpa only [PyData.shown] using q⟩
  | bl b => cases ru; exact PySem.P.repr_of_bool ⟨.str _, H, I.tok _, ⟨_, rfl⟩, by simpa only [PyData.shown] using q⟩
  | int i =>
    obtain ⟨t, rfl⟩ := ru
    exact PySem.P.repr_of_int (by simpa only [PyData.showable, decide_eq_true_eq] using hs) ⟨.str _, H, I.tok _, ⟨_, rfl⟩, by simpa only [PyData.shown] using q⟩
  | str x =>
    obtain ⟨t, rfl⟩ := ru
    exact PySem.P.repr_of_str ⟨.str _, H, I.tok _, ⟨_, rfl⟩, by simpa only [PyData.shown] using q⟩ (by simpa only [PyData.shown] using hl)
  | lst a b =>
    obtain rfl := ru
    have hd2 := Dp.lst a b
    obtain ⟨as, rd⟩ := Dp.reads I _ _ _ hd2 rfl
    exact repr_of_reads' rd hs (PyData.noDict_hsm (dp_plain _ _ hd2)) hr.g (by omega) (fun _ _ z => z) (fun h' u tk kp => ⟨.str _, H, I.kept kp, ⟨_, rfl⟩, q⟩) hl
  | tup a b =>
    obtain rfl := ru
    have hd2 := Dp.tup a b
    obtain ⟨as, rd⟩ := Dp.reads I _ _ _ hd2 rfl
    exact repr_of_reads' rd hs (PyData.noDict_hsm (dp_plain _ _ hd2)) hr.g (by omega) (fun _ _ z => z) (fun h' u tk kp => ⟨.str _, H, I.kept kp, ⟨_, rfl⟩, q⟩) hl
theorem pe_repr {k : Nat} {x : Str} {p pos : Pos} {e : Expr} {te : TE} (hr : RG k X.A) (hm : X.mg "repr" = none) (he : PE X e te) (hg : Gl X "repr" := by rfl)
    (hs : starEach (e :: []) X.env = (false, eval e X.env) :: starEach [] X.env := by rfl) (hpl : (backTo pos (starEach [] X.env)).any (·.1) = false := by rfl) :
    PE X (.Call (.Name "repr" p) [e] [] pos) (tCB (rRepr X.K) (tCons te tNil)) := pe_callB (call_repr hr) hg hm boot_repr (pa_cons he pa_nil hs) (by decide) (by decide) hs hpl
end
end FG

/-! GEnd: the end of a law whose def keeps its promise where the guards are known. -/
namespace FG
open PySem PySem.Spec L2
open PyProof.Rows hiding St

theorem law_runs {P : Program} {w : World} {K : PySem.W.Frag} {mg mb : Str → Option Value} {k : Nat} {fa a : Addr} {fd : FuncData} {x : Str} {sp : Sp} {s : Shared} {vs : List Value} {ns : List Int}
    (inK : K.In s.heap) (gl : s.heap.Ns mainGlobals mg) (bl : s.heap.Ns builtinsNs mb) (bb : ∀ y : Str, y ≠ "__name__" → mb y = bootBuiltins y) (nol : s.heap.NoLimit) (gens : s.gens = #[])
    (la : s.heap.get? a = some { cls := .type "list", data := .seq vs.toArray }) (li : IntsAre vs ns) (ln : ns.length ≤ sizeLine) (hr : Room k callerA)
    (F : ∀ base : Heap, K.In base → base.Ns mainGlobals mg → FnG P w K mg base k fa fd [x] sp) (bnd : ∀ (s : Shared) (u : Value), BindsTo s fd ⟨[u], []⟩ [(x, u)])
    (hsp : ∀ H : Hp, Only H → SqL K H a (ns.map V.int) → sp [.ref a] H (fun v _ => v = .bl true) fun _ _ _ => False) :
    codeAny (model P w) callerA (.call (.ref fa) ⟨[.ref a], []⟩) (fun r s' => r = .ok (.ret (.bool true)) ∧ OldK s.heap s'.heap ∧ s'.os = s.os ∧ AllBare s'.gens) s := by
  have rels := vals_ints li
  have lens := li.length
  have main : ∀ H : Hp, Only H → SqL K H a (ns.map V.int) → HOk P w H s.heap → (∀ b u, H b = some u → b = a) → (∀ u, H a = some u → K.lookup a = none) →
      codeAny (model P w) callerA (.call (.ref fa) ⟨[.ref a], []⟩) (fun r s' => r = .ok (.ret (.bool true)) ∧ OldK s.heap s'.heap ∧ s'.os = s.os ∧ AllBare s'.gens) s := by
    intro H only seq hok atA notK
    have noDict : ∀ {b : Addr} {o : Obj} {es : Array DictEntry} {ep : Nat}, s.heap.get? b = some o → o.data = .dict es ep → H b = none := by
      intro b o es ep e d
      cases q : H b with
      | none => rfl
      | some u =>
        obtain rfl := atA b u q
        rw [la] at e
        cases e
        cases (show Data.seq vs.toArray _ = Data.dict es ep from d)
    have ns2 : ∀ {b : Addr} {m : Str → Option Value}, s.heap.Ns b m → (hidT s.heap H).Ns b m := by
      rintro b m ⟨o, es, ep, e, d, r⟩
      exact ⟨o, es, ep, hidT_get e (noDict e d), d, r⟩
    have inK2 : K.In (hidT s.heap H) := by
      intro b o e
      refine hidT_get (inK b o e) ?_
      cases q : H b with
      | none => rfl
      | some u =>
        obtain rfl := atA b u q
        rw [notK u q] at e
        cases e
    have md : Mod K mg (hidT s.heap H) := by
      obtain ⟨mc, c1, c2⟩ := nol
      exact ⟨inK2, ns2 gl, ⟨mb, ns2 bl, bb⟩, mc, ns2 c1, c2⟩
    have env0 : Env0 P w K mg (hidT s.heap H) callerA [] s H :=
      ⟨rfl, md, fun b o e => of_hidT e, Nat.le_of_eq (hidT_size _ _), trivial, (fun b hb => by cases (show b ∈ ([] : List Addr) from hb)), hok, .of_eq gens⟩
    refine codeAny_mono ((F _ inK2 (ns2 gl)).goes callerA [] s H ⟨[.ref a], []⟩ [.ref a] [.ref a] _ _ ⟨hr, rfl⟩ env0 (bnd s (.ref a)) (.cons rfl .nil) (hsp H only seq)) fun r s2 hq => ?_
    match r, hq with
    | .error e, hq =>
      obtain ⟨_, _, _, _, _, _, _, _, _, _, _, _, z⟩ := hq
      exact z.elim
    | .ok .next, hq => exact hq.elim
    | .ok .brk, hq => exact hq.elim
    | .ok .cont, hq => exact hq.elim
    | .ok (.ret u), hq =>
      obtain ⟨v, H2, os, bare, un, hok2, rv, q⟩ := hq
      obtain rfl : v = .bl true := q
      obtain rfl : u = Value.bool true := rv
      refine ⟨rfl, OldK.of_keep fun b o e => ?_, os, bare⟩
      cases hb : H b with
      | none => exact un.keep b o e hb (fun z => by cases (show b ∈ ([] : List Addr) from z)) (fun z => by cases (show b ∈ ([] : List Addr) from z))
      | some y =>
        obtain z | ⟨ob, xs, z⟩ := only b
        · rw [hb] at z
          cases z
        · have e1 := (hok b _ z).1
          have e2 := (hok2 b _ (un.frzs b ob _ z)).1
          rw [e] at e1
          cases e1
          exact e2
  cases hk : K.lookup a with
  | some o =>
    have e := inK a o hk
    rw [la] at e
    cases e
    exact main (fun _ => none) (fun _ => .inl rfl) (.inr ⟨_, vs.toArray, _, hk, rfl, rfl, rfl, by rw [List.size_toArray, lens]; exact ln, by simpa using rels⟩) (fun b u z => by cases z) (fun b u z => by cases z) fun u z => by cases z
  | none =>
    let H1 : Hp := fun b => if b = a then some (.frz { cls := .type "list", data := .seq vs.toArray } (.lst (ns.map V.int))) else none
    have ha : H1 a = some (.frz { cls := .type "list", data := .seq vs.toArray } (.lst (ns.map V.int))) := if_pos rfl
    have hne : ∀ b, b ≠ a → H1 b = none := fun b hb => if_neg hb
    refine main H1 (fun b => ?_) (.inl (.inr ⟨_, ha⟩)) (fun b u z => ?_) (fun b u z => ?_) fun _ _ => hk
    · by_cases hb : b = a
      · subst hb
        exact .inr ⟨_, _, ha⟩
      · exact .inl (hne b hb)
    · by_cases hb : b = a
      · subst hb
        rw [ha] at z
        cases z
        exact ⟨la, by rw [List.length_map]; exact ln, vs, _, rels, la⟩
      · rw [hne b hb] at z
        cases z
    · by_cases hb : b = a
      · exact hb
      · rw [hne b hb] at z
        cases z

/-- the goal that a head by facts leaves -/
theorem walk_G {l : PySem.W.OpenLaw} {n k : Nat} {q : Program} {loose : List Str} {XP : (Str → Option Value) → Heap → Prop} {YP : World → Heap → Prop} {d : DefRec} {x : Str}
    (hn : l.most = some n) (hn2 : n ≤ sizeLine) (hdf : d.params.defaults = []) (hr : Room k callerA)
    (F : ∀ (w : World) (mg : Str → Option Value) (fa : Addr) (h : Heap), YP w h → h.Ns mainGlobals mg → mg d.name = some (.ref fa) →
      ∃ (K : PySem.W.Frag) (fd : FuncData) (sp : Sp), K.In h ∧ (∀ (s : Shared) (u : Value), BindsTo s fd ⟨[u], []⟩ [(x, u)]) ∧
        (∀ (H : Hp) (a : Addr) (ns : List Int), ns.length ≤ n → (∀ z ∈ ns, Builtin.Int.intBits z ≤ 1048576) → Only H → SqL K H a (ns.map V.int) → sp [.ref a] H (fun v _ => v = .bl true) fun _ _ _ => False) ∧
        ∀ base : Heap, K.In base → base.Ns mainGlobals mg → FnG l.prog w K mg base k fa fd [x] sp) :
    PySem.W.WalkO q loose XP YP l.row.toRowW d [] (fun f vs => PySem.call f vs) := by
  refine Att.attach_callB hn hdf fun w s₀ s₁ mg mb fa o pm cd doc a vs ns G Y ho hd hcd hmg hobj hints hlen bits gens => ?_
  obtain ⟨K, fd, sp, inK, hb, hsp, hF⟩ := F w mg fa _ Y G.T.g hmg
  exact law_runs inK G.T.g G.T.b G.T.builtins G.T.nolimit gens hobj hints (Nat.le_trans hlen hn2) hr hF hb fun H hO hS => hsp H a ns hlen bits hO hS

section
variable {P : Program} {w : World} {K : PySem.W.Frag} {mg : Str → Option Value} {base : Heap} {k : Nat} {x m q : Str} {st : Stmt} {f C : Addr} {ps : List Str} {sp : Sp}
theorem Cal.of (g : mg x = some (.ref f)) (F : ∃ fd, Fun K x q st f fd) (b : ∀ {fd}, Fun K x q st f fd → Binds K fd ps []) (h : ∀ {fd}, Fun K x q st f fd → FnG P w K mg base k f fd ps sp) : Cal P w K mg base k x sp :=
  let ⟨fd, z⟩ := F; ⟨f, fd, ps, h z, g, z.kp, b z⟩
theorem Met.of (c : Cls K C) (mt : Meth K C m f) (F : ∃ fd, Fun K x q st f fd) (b : ∀ {fd}, Fun K x q st f fd → Binds K fd ps []) (h : ∀ {fd}, Fun K x q st f fd → FnG P w K mg base k f fd ps sp) : Met P w K mg base k C m sp :=
  let ⟨fd, z⟩ := F; ⟨f, fd, ps, c, mt, h z, b z⟩
theorem Mak.of (M : Mk K C f) (g : mg m = some (.ref C)) (F : ∃ fd, Fun K x q st f fd) (b : ∀ {fd}, Fun K x q st f fd → Binds K fd ps []) (h : ∀ {fd}, Fun K x q st f fd → FnG P w K mg base k f fd ps sp) : Mak P w K mg base k m C sp :=
  let ⟨fd, z⟩ := F; ⟨f, fd, ps, M, h z, g, b z⟩
end
/-- a def without defaults as a Fun -/
theorem toFun {K : PySem.W.Frag} {x qual : Str} {st : Stmt} {f : Addr} {fd : FuncData} (F : FunD K x qual (defArgs st) (defBody st) (defScope st) [] [] f fd) : Fun K x qual st f fd := by
  obtain ⟨oc, od, dV, kV, doc, pm, an, cdv, ct, osl, rfl, lk, cd, dv, _⟩ := F.ex
  rcases dv with ⟨_, rfl⟩ | ⟨z, _⟩
  · exact ⟨⟨oc, od, kV, doc, pm, an, cdv, ct, osl, rfl, lk, cd⟩, F.kp⟩
  · exact absurd rfl z
end FG

/-! GK: the layer's rules, their readings told over a named written part (so that they can stand within a comprehension). -/
namespace FG
open PySem PySem.Spec L2
open PyProof.Rows hiding St
section
variable {X : Cx} {e o a b : Expr} {es : List Expr} {f name : Str} {pos apos cpos p p2 p3 : Pos} {ta te tb to : TE} {t : TA} {T id : String} {r : V → List V → Hp → VK → Prop}
theorem kfld (K : PySem.W.Frag) (he : PE X e ta) (hb : attributeBase e f X.env (eval e X.env) = eval e X.env := by rfl) (hK : X.K = K := by rfl) : PE X (.Attribute e f pos) (tFld K ta f) := by subst hK; exact pe_fld he hb
theorem kixL (K : PySem.W.Frag) (hK : X.K = K := by rfl) : IxR X (rIxL K) := by subst hK; exact ix_list
theorem kixT (K : PySem.W.Frag) (hK : X.K = K := by rfl) : IxR X (rIxT K) := by subst hK; exact ix_tup
theorem kslL (K : PySem.W.Frag) (hK : X.K = K := by rfl) : SlR X (rSlL K) := by subst hK; exact sl_list
theorem kslT (K : PySem.W.Frag) (hK : X.K = K := by rfl) : SlR X (rSlT K) := by subst hK; exact sl_tup
theorem kin (K : PySem.W.Frag) (hK : X.K = K := by rfl) : OpR X (compareOp .In) (rIn K false) := by subst hK; exact op_in_seq
theorem knotIn (K : PySem.W.Frag) (hK : X.K = K := by rfl) : OpR X (compareOp .NotIn) (rIn K true) := by subst hK; exact op_notIn_seq
theorem keqD (K : PySem.W.Frag) (hu : X.A.units + 64 < cLine) (hK : X.K = K := by rfl) : OpR X (compareOp .Eq) (rEqD K) := by subst hK; exact op_eqD hu
theorem kneD (K : PySem.W.Frag) (hu : X.A.units + 64 < cLine) (hK : X.K = K := by rfl) : OpR X (compareOp .NotEq) (rNeD K) := by subst hK; exact op_neD hu
theorem knotInD (K : PySem.W.Frag) (hu : X.A.units + 65 < cLine) (hK : X.K = K := by rfl) : OpR X (compareOp .NotIn) (rNotInD K) := by subst hK; exact op_notInD hu
theorem kcatT (K : PySem.W.Frag) (hK : X.K = K := by rfl) : OpR X (binaryOp .Add) (rCatT K) := by subst hK; exact op_catT
def rLenS (K : PySem.W.Frag) (xs : List V) (H : Hp) (Q : VK) : Prop := ∃ p ys, xs = [.ref p] ∧ (SqL K H p ys ∨ SqT K H p ys) ∧ Q (.int ys.length) H
theorem klen (K : PySem.W.Frag) (hK : X.K = K := by rfl) : CallR X (.builtin "len") (rLenS K) := by subst hK; exact call_len_seq
def rListOf (K : PySem.W.Frag) (xs : List V) (H : Hp) (Q : VK) : Prop := ∃ p ys, xs = [.ref p] ∧ (SqL K H p ys ∨ SqT K H p ys) ∧ ∀ l, H l = none → Q (.ref l) (upd H l (.lst ys))
theorem klist (K : PySem.W.Frag) (hK : X.K = K := by rfl) : CallR X (.type "list") (rListOf K) := by subst hK; exact call_list_of
def rTupOf (K : PySem.W.Frag) (xs : List V) (H : Hp) (Q : VK) : Prop := ∃ p ys, xs = [.ref p] ∧ ((SqL K H p ys ∧ ∀ l, H l = none → Q (.ref l) (upd H l (.tup ys))) ∨ (SqT K H p ys ∧ Q (.ref p) H))
theorem ktuple (K : PySem.W.Frag) (hK : X.K = K := by rfl) : CallR X (.type "tuple") (rTupOf K) := by subst hK; exact call_tuple_of
theorem ksum (K : PySem.W.Frag) (hc : X.calm = true := by rfl) (hK : X.K = K := by rfl) : CallR X (.builtin "sum") (rSum K) := by subst hK; exact cr_sum hc
theorem kmax (K : PySem.W.Frag) (hc : X.calm = true := by rfl) (hK : X.K = K := by rfl) : CallR X (.builtin "max") (rMax K) := by subst hK; exact cr_max hc
theorem kmin (K : PySem.W.Frag) (hc : X.calm = true := by rfl) (hK : X.K = K := by rfl) : CallR X (.builtin "min") (rMin K) := by subst hK; exact cr_min hc
theorem kany (K : PySem.W.Frag) (hc : X.calm = true := by rfl) (hK : X.K = K := by rfl) : CallR X (.builtin "any") (rAny K) := by subst hK; exact cr_any hc
theorem kall (K : PySem.W.Frag) (hc : X.calm = true := by rfl) (hK : X.K = K := by rfl) : CallR X (.builtin "all") (rAll K) := by subst hK; exact cr_all hc
theorem kisi (K : PySem.W.Frag) (hK : X.K = K := by rfl) : CallR X (.builtin "isinstance") (rIsi K) := by subst hK; exact call_isi
theorem kbm0 (K : PySem.W.Frag) (pa : PlainAttrs T) (slot : Slot T name id) (hty : typeOf (.builtin id) = pure (.type "method_descriptor")) (hm : MtR X id r) (ho : PE X o to)
    (hbase : attributeBase o name X.env (eval o X.env) = eval o X.env := by rfl) (hline : (apos.endLine == cpos.line) = true := by rfl) (hK : X.K = K := by rfl) : PE X (.Call (.Attribute o name apos) [] [] cpos) (tBM0 K T r to) := by
  subst hK; exact pe_bm0 pa slot hty hm ho hbase hline
theorem kbm (K : PySem.W.Frag) (pa : PlainAttrs T) (slot : Slot T name id) (hty : typeOf (.builtin id) = pure (.type "method_descriptor")) (hm : MtR X id r) (ho : PE X o to) (ha : PA X (e :: es) t)
    (hbase : attributeBase o name X.env (eval o X.env) = eval o X.env := by rfl)
    (hfew : ((backTo cpos (starEach (e :: es) X.env)).all (fun x => !x.1) && (backToKw cpos (keywordEach [] X.env)).all (fun x => x.1.isSome) && decide ((e :: es).length + ([] : List Keyword).length + (if ([] : List Keyword).isEmpty then 0 else 1) < 30)) = true := by rfl)
    (hline : (apos.endLine == cpos.line) = true := by rfl) (hs : starEach (e :: es) X.env = (false, eval e X.env) :: starEach es X.env := by rfl) (hpl : (backTo cpos (starEach es X.env)).any (·.1) = false := by rfl) (hK : X.K = K := by rfl) :
    PE X (.Call (.Attribute o name apos) (e :: es) [] cpos) (tBM K T r to t) := by
  subst hK; exact pe_bm pa slot hty hm ho ha hbase hfew hline hs hpl
theorem krevL (K : PySem.W.Frag) {k : Nat} {p1 : Pos} (he : PE X e te) (hK : X.K = K := by rfl) : PE X (.Subscript e (.Slice none none (some (.UnaryOp .USub (.Constant (.int 1) k p1) p2)) p3) pos) (tRevL K te) := by subst hK; exact pe_revL he
theorem kiL (K : PySem.W.Frag) {tg : Expr} (he : PE X e te) (hK : X.K = K := by rfl) : PI X tg e (iList K te) := by subst hK; exact pi_list he
theorem kiT (K : PySem.W.Frag) {tg : Expr} (he : PE X e te) (hK : X.K = K := by rfl) : PI X tg e (iTup K te) := by subst hK; exact pi_tup he
theorem kiRev (K : PySem.W.Frag) {tg : Expr} (hg : Gl X "reversed") (hm : X.mg "reversed" = none) (ha : PA X [e] t) (hs : starEach [e] X.env = [(false, eval e X.env)] := by rfl) (hK : X.K = K := by rfl) :
    PI X tg (.Call (.Name "reversed" p) [e] [] pos) (iRev K t) := by subst hK; exact pi_reversed hg hm ha hs
theorem kgT (K : PySem.W.Frag) {k n : Nat} {tgs : TGs} (hc : X.calm = true) (h : PGs X es tgs) (hn : (assignEach es X.env).length = n := by rfl) (hst : (assignEach es X.env).findIdx? (·.1) = none := by rfl) (hK : X.K = K := by rfl) :
    PG X (.Tuple es k pos) (gTup K n tgs) := by subst hK; exact pg_tup hc h hn hst
def tTru (K : PySem.W.Frag) (te : TE) : TT := fun σ H Q => te σ H fun x H1 => ∃ k, TruV K x H1 k ∧ Q k H1
theorem ktru (K : PySem.W.Frag) (ha : PE X a ta) (he : ∀ whole, isTrue a X.env whole = (do let v ← whole; standAt a.pos; holding [v] (truthy v)) := by intro _; rfl) (hK : X.K = K := by rfl) : PT X a (tTru K ta) := by subst hK; exact pt_truth ha he
theorem krepr (K : PySem.W.Frag) {k : Nat} (hr : RG k X.A) (hm : X.mg "repr" = none) (he : PE X e te) (hg : Gl X "repr" := by rfl)
    (hs : starEach (e :: []) X.env = (false, eval e X.env) :: starEach [] X.env := by rfl) (hpl : (backTo pos (starEach [] X.env)).any (·.1) = false := by rfl) (hK : X.K = K := by rfl) :
    PE X (.Call (.Name "repr" p) [e] [] pos) (tCB (rRepr K) (tCons te tNil)) := by subst hK; exact pe_callB (call_repr hr) hg hm boot_repr (pa_cons he pa_nil hs) (by decide) (by decide) hs hpl
theorem ksFld (K : PySem.W.Frag) {p' : Pos} {v : Expr} {tv : TE} (ha : PE X o to) (hv : PE X v tv) (hs : swapsWith v (some (.Attribute o f p')) pos.line X.env = pure false := by rfl) (hK : X.K = K := by rfl) : PS X (.Assign [.Attribute o f p'] v pos) (sFld K to tv f) := by subst hK; exact ps_fld ha hv hs
/-- xs == [] -/
def rEqE (K : PySem.W.Frag) : R2 := fun x y H Q => ∃ a b xs, x = .ref a ∧ y = .ref b ∧ SqL K H a xs ∧ SqL K H b [] ∧ Q (.bl xs.isEmpty) H
theorem keqE (K : PySem.W.Frag) (hu : X.A.units + 64 < cLine) (hK : X.K = K := by rfl) : OpR X (compareOp .Eq) (rEqE K) := by
  subst hK
  intro pins s σ H x y v u Q I rx ry h
  obtain ⟨a, b, xs, rfl, rfl, ha, hb, q⟩ := h
  cases (show v = Value.ref a from rx)
  cases (show u = Value.ref b from ry)
  obtain ⟨us, r1, p1, _⟩ := I.list ha
  obtain ⟨ws, r2, p2, _⟩ := I.list hb
  cases r2
  cases r1 with
  | nil => exact SeqAt.RcAt.lists (e := fun _ => true) p1.isList p2.isList rfl (by omega) (fun j h1 _ => absurd h1 (Nat.not_lt_zero j)) _ _ _ _ ⟨.bl true, H, I, rfl, q⟩
  | cons c d => exact SeqAt.RcAt.lists_lengths p1.isList p2.isList (by simp) (by omega) _ _ _ _ ⟨.bl false, H, I, rfl, q⟩
end
end FG

/-! GRepr: the texts of small data fit. -/
namespace FG
open PySem PySem.Spec L2
open PyProof.Rows hiding St
mutual
/-- numbers of at most 38 figures, signs below 16 ^ 8 -/
def okD : PyData → Bool
  | .none | .bool _ => true
  | .int i => decide (i.natAbs < 10 ^ 38)
  | .str x => x.cps.toList.all fun c => c < 16 ^ 8
  | .list xs | .tuple xs => okDs xs
  | .dict kvs => kvs.isEmpty
def okDs : List PyData → Bool
  | [] => true
  | x :: xs => okD x && okDs xs
end
theorem int_short {i : Int} (h : i.natAbs < 10 ^ 38) : (PyData.shown (.int i)).length ≤ 40 := by
  have h1 := int_text_length_le10 (a := i) (k := 38) (by decide) h
  have h2 : (PyData.shown (.int i)).length = (toString i).length := by
    show (Str.ofString (toString i)).length = _
    rw [PySem.ofString_length]
  omega
theorem log_small {i : Int} (h : i.natAbs < 10 ^ 38) : i.natAbs.log2 < 1920 := log2_small (Nat.lt_trans h (by decide +kernel))
mutual
theorem okD_leaves : ∀ d : PyData, okD d = true → d.leavesShort 40 = true ∧ d.showable = true
  | .none, _ => ⟨by simp only [PyData.leavesShort], by simp only [PyData.showable]⟩
  | .bool _, _ => ⟨by simp only [PyData.leavesShort], by simp only [PyData.showable]⟩
  | .int i, h => by
    have h2 : i.natAbs < 10 ^ 38 := by simpa only [okD, decide_eq_true_eq] using h
    exact ⟨by simp only [PyData.leavesShort, decide_eq_true_eq]; exact int_short h2, by simp only [PyData.showable, decide_eq_true_eq]; exact log_small h2⟩
  | .str x, h => ⟨by simpa only [okD, PyData.leavesShort] using h, by simp only [PyData.showable]⟩
  | .list xs, h => by
    have z := okDs_leaves xs (by simpa only [okD] using h)
    exact ⟨by simp only [PyData.leavesShort]; exact z.1, by simp only [PyData.showable]; exact z.2⟩
  | .tuple xs, h => by
    have z := okDs_leaves xs (by simpa only [okD] using h)
    exact ⟨by simp only [PyData.leavesShort]; exact z.1, by simp only [PyData.showable]; exact z.2⟩
  | .dict [], _ => ⟨by simp only [PyData.leavesShort, PyData.leavesShortKv], by simp only [PyData.showable, PyData.showableKv]⟩
  | .dict (_ :: _), h => by simp [okD] at h
theorem okDs_leaves : ∀ ds : List PyData, okDs ds = true → PyData.leavesShortAll 40 ds = true ∧ PyData.showableAll ds = true
  | [], _ => ⟨by simp only [PyData.leavesShortAll], by simp only [PyData.showableAll]⟩
  | d :: ds, h => by
    have h2 : okD d = true ∧ okDs ds = true := by simpa only [okDs, Bool.and_eq_true] using h
    have a := okD_leaves d h2.1
    have b := okDs_leaves ds h2.2
    exact ⟨by simp only [PyData.leavesShortAll, a.1, b.1, Bool.and_self], by simp only [PyData.showableAll, a.2, b.2, Bool.and_self]⟩
end
theorem shw_at {K : PySem.W.Frag} {v : V} {d : PyData} {H : Hp} (hd : Dp K H v d) (ok : okD d = true) (hb : d.bulk ≤ 300000) (hdep : d.depth ≤ 60) : Shw K H v d := by
  obtain ⟨h1, h2⟩ := okD_leaves d ok
  refine ⟨.inl hd, h2, ?_, hdep⟩
  have := PyData.shown_le_bulk 40 (by decide) d h1
  rw [sizeLine_eq]
  omega
theorem shw_atE {K : PySem.W.Frag} {v : V} {d : PyData} {H : Hp} (hd : DpE H v d) (ok : okD d = true) (hb : d.bulk ≤ 300000) (hdep : d.depth ≤ 60) : Shw K H v d := by
  obtain ⟨h1, h2⟩ := okD_leaves d ok
  refine ⟨.inr hd, h2, ?_, hdep⟩
  have := PyData.shown_le_bulk 40 (by decide) d h1
  rw [sizeLine_eq]
  omega
theorem okDs_of {ds : List PyData} (h : ∀ d ∈ ds, okD d = true) : okDs ds = true := by
  induction ds with
  | nil => simp only [okDs]
  | cons d ds ih =>
    simp only [okDs, Bool.and_eq_true]
    exact ⟨h d (by simp), ih fun x hx => h x (by simp [hx])⟩
theorem bulk_flat {ds : List PyData} (h : ∀ d ∈ ds, d.bulk = 0) : PyData.bulkAll ds = ds.length := by
  induction ds with
  | nil => simp only [PyData.bulkAll, List.length_nil]
  | cons d ds ih =>
    simp only [PyData.bulkAll, List.length_cons]
    rw [h d (by simp), ih fun x hx => h x (by simp [hx])]; omega
theorem depth_flat {ds : List PyData} (h : ∀ d ∈ ds, d.depth = 0) : PyData.depthAll ds = 0 := by
  induction ds with
  | nil => simp only [PyData.depthAll]
  | cons d ds ih =>
    simp only [PyData.depthAll]
    rw [h d (by simp), ih fun x hx => h x (by simp [hx])]; rfl
theorem shw_int {K : PySem.W.Frag} {i : Int} {H : Hp} (h : i.natAbs < 10 ^ 38) : Shw K H (.int i) (.int i) :=
  shw_at (.int i) (by simp only [okD, decide_eq_true_eq]; exact h) (by simp only [PyData.bulk]; omega) (by simp only [PyData.depth]; omega)
theorem shw_small {K : PySem.W.Frag} {i : Int} {H : Hp} (h : i.natAbs < 1000000000000) : Shw K H (.int i) (.int i) := shw_int (Nat.lt_trans h (by decide))
theorem shw_bool {K : PySem.W.Frag} {b : Bool} {H : Hp} : Shw K H (.bl b) (.bool b) :=
  shw_at (.bl b) (by simp only [okD]) (by simp only [PyData.bulk]; omega) (by simp only [PyData.depth]; omega)
theorem shw_none {K : PySem.W.Frag} {H : Hp} : Shw K H .non .none :=
  shw_at .non (by simp only [okD]) (by simp only [PyData.bulk]; omega) (by simp only [PyData.depth]; omega)
end FG

/-! GExc: own exceptions with fields: what the written part says, made and raised, caught by clauses with and without a name, asked in a suite. Own layer over HandS. -/
namespace FG
open PySem PySem.Spec L2
open PyProof.Rows hiding St

/-! ### facts -/
theorem ba2 {a b : Bool} (h : (a && b) = true) : a = true ∧ b = true := Bool.and_eq_true_iff.mp h
def oexB (K : PySem.W.Frag) (C : Addr) : Bool := (match K.lookup C with
  | some ⟨.type ty, _, .cls cd, sl⟩ => (match cd.mro, sl.toList with
    | .ref C' :: bm, [_, _, _, _, some (.builtin n), _] => decide (ty = "type") && (decide (C' = C) && (HandSPX.refsVE bm && (cd.hasDict && (!cd.hasDel && decide (n = "ValueError.__new__")))))
    | _, _ => false)
  | _ => false) && (decide (PySem.W.findIn K (.ref C) "__setattr__" = some (some (.builtin "object.__setattr__"))) && (decide (PySem.W.subIn K (.ref C) (.type "BaseException") = some true) && (decide (PySem.W.typeIn K (.ref C) = some (.type "type")) && PySem.W.keepIn K (.ref C))))
theorem oexB_ok {K : PySem.W.Frag} {C : Addr} (h : oexB K C = true) : OexC K C := by
  unfold oexB at h
  obtain ⟨h1, h⟩ := ba2 h
  obtain ⟨h2, h⟩ := ba2 h
  obtain ⟨h3, h⟩ := ba2 h
  obtain ⟨h4, h5⟩ := ba2 h
  refine ⟨?_, of_decide_eq_true h2, of_decide_eq_true h3, of_decide_eq_true h4, h5⟩
  split at h1
  · rename_i ty dd cd sl ho
    split at h1
    · rename_i C' bm k0 k1 k2 k3 n k5 hm hs
      simp only [Bool.and_eq_true, decide_eq_true_eq, Bool.not_eq_true'] at h1
      obtain ⟨rfl, rfl, hr, hd, hdel, rfl⟩ := h1
      obtain ⟨nm, bs, mro, ns, qn, hd', sn, sub, ab, col, del⟩ := cd
      dsimp only at hm hd hdel
      subst hm hd hdel
      have hsl : sl = #[k0, k1, k2, k3, some (.builtin "ValueError.__new__"), k5] := by
        obtain ⟨l⟩ := sl
        simp only at hs
        rw [hs]
      subst hsl
      exact ⟨nm, qn, ns, bs, bm, sn, sub, ab, col, dd, k0, k1, k2, k3, k5, ho, hr⟩
    · cases h1
  · cases h1
/-- what isinstance and an instance's fields ask of the class -/
def excB (K : PySem.W.Frag) (D : Addr) : Bool :=
  decide (PySem.W.findIn K (.ref D) "__getattribute__" = some (some (.builtin "BaseException.__getattribute__"))) && (decide (PySem.W.findIn K (.ref D) "__getattr__" = some none) && (decide (PySem.W.subIn K (.ref D) (.type "BaseException") = some true) &&
  (PySem.W.hasDictIn K D && (decide (PySem.W.findIn K (.ref D) "__class__" = some (some (.builtin "object.__class__"))) && (decide (PySem.W.specialIn K (.builtin "object.__class__") "__get__" = some (some (.builtin "getset_descriptor.__get__"))) &&
  (decide (PySem.W.takesIn K (.builtin "object.__class__") = some true) && decide (PySem.W.mroIn K D (.type "object") = some true)))))))
theorem excB_ok {K : PySem.W.Frag} {D : Addr} (h : excB K D = true) : ExcC K D ∧ XfC K D := by
  unfold excB at h
  obtain ⟨h1, h⟩ := ba2 h
  obtain ⟨h2, h⟩ := ba2 h
  obtain ⟨h3, h⟩ := ba2 h
  obtain ⟨h4, h⟩ := ba2 h
  obtain ⟨h5, h⟩ := ba2 h
  obtain ⟨h6, h⟩ := ba2 h
  obtain ⟨h7, h8⟩ := ba2 h
  exact ⟨⟨of_decide_eq_true h1, of_decide_eq_true h2, of_decide_eq_true h3, h4, of_decide_eq_true h5, of_decide_eq_true h6, of_decide_eq_true h7, of_decide_eq_true h8⟩, ⟨of_decide_eq_true h1, of_decide_eq_true h2, of_decide_eq_true h3, h4⟩⟩
/-- an own exception class with these fields -/
structure XC (K : PySem.W.Frag) (C : Addr) (fs : List Str) : Prop where
  o : OexC K C
  e : ExcC K C
  x : XfC K C
  no : ∀ f ∈ fs, PySem.W.findIn K (.ref C) f = some none
/-- its own __init__ -/
structure XI (K : PySem.W.Frag) (C f : Addr) : Prop where
  i : PySem.W.findIn K (.ref C) "__init__" = some (some (.ref f))
  t : PySem.W.typeIn K (.ref f) = some (.type "function")
/-- an own exception class without __init__ -/
structure X0 (K : PySem.W.Frag) (C : Addr) : Prop where
  q : PySem.W.excIn K C He.veBase "ValueError.__new__" = true
  k : PySem.W.keepIn K (.ref C) = true
  s : PySem.W.subIn K (.ref C) (.type "BaseException") = some true
  t : PySem.W.typeIn K (.ref C) = some (.type "type")
  e : ExcC K C
/-- what is told of the written part beyond the kit's facts -/
inductive Xa where
  | oex (c : Str) (fs : List Str)
  | zer (c : Str)
  | exm (c d : Str) (b : Bool)
  | isi (c d : Str) (b : Bool)
  | prop (f : PySem.W.Frag → Bool)
def Xa.ok (K : PySem.W.Frag) : Xa → Bool
  | .oex c fs => oexB K (He.ga K c) && (excB K (He.ga K c) && (fs.all (fun f => decide (PySem.W.findIn K (.ref (He.ga K c)) f = some none)) && (decide (PySem.W.findIn K (.ref (He.ga K c)) "__init__" = some (some (.ref (He.ma K (He.ga K c) "__init__")))) &&
      decide (PySem.W.typeIn K (.ref (He.ma K (He.ga K c) "__init__")) = some (.type "function")))))
  | .zer c => PySem.W.excIn K (He.ga K c) He.veBase "ValueError.__new__" && (PySem.W.keepIn K (.ref (He.ga K c)) && (decide (PySem.W.subIn K (.ref (He.ga K c)) (.type "BaseException") = some true) && (decide (PySem.W.typeIn K (.ref (He.ga K c)) = some (.type "type")) && excB K (He.ga K c))))
  | .exm c d b => decide (PySem.W.exmOne K (.ref (He.ga K c)) (.ref (He.ga K d)) = some b)
  | .isi c d b => decide (PySem.W.kitOne K (.ref (He.ga K c)) (.ref (He.ga K d)) = some b)
  | .prop f => f K
theorem oex_ok {K : PySem.W.Frag} {c : Str} {fs : List Str} (h : (Xa.oex c fs).ok K = true) : XC K (He.ga K c) fs ∧ XI K (He.ga K c) (He.ma K (He.ga K c) "__init__") := by
  obtain ⟨h1, h⟩ := ba2 h
  obtain ⟨h2, h⟩ := ba2 h
  obtain ⟨h3, h⟩ := ba2 h
  obtain ⟨h4, h5⟩ := ba2 h
  obtain ⟨e, x⟩ := excB_ok h2
  exact ⟨⟨oexB_ok h1, e, x, fun f hf => of_decide_eq_true (List.all_eq_true.mp h3 f hf)⟩, ⟨of_decide_eq_true h4, of_decide_eq_true h5⟩⟩
theorem zer_ok {K : PySem.W.Frag} {c : Str} (h : (Xa.zer c).ok K = true) : X0 K (He.ga K c) := by
  obtain ⟨h1, h⟩ := ba2 h
  obtain ⟨h2, h⟩ := ba2 h
  obtain ⟨h3, h⟩ := ba2 h
  obtain ⟨h4, h5⟩ := ba2 h
  exact ⟨h1, h2, of_decide_eq_true h3, of_decide_eq_true h4, (excB_ok h5).1⟩
theorem exm_ok {K : PySem.W.Frag} {c d : Str} {b : Bool} (h : (Xa.exm c d b).ok K = true) : PySem.W.exmOne K (.ref (He.ga K c)) (.ref (He.ga K d)) = some b := of_decide_eq_true h
theorem isi_ok {K : PySem.W.Frag} {c d : Str} {b : Bool} (h : (Xa.isi c d b).ok K = true) : PySem.W.kitOne K (.ref (He.ga K c)) (.ref (He.ga K d)) = some b := of_decide_eq_true h
theorem xa_at {K : PySem.W.Frag} {l : List Xa} (h : (l.all fun x => x.ok K) = true) (i : Nat) {x : Xa} (hx : l[i]? = some x) : x.ok K = true := List.all_eq_true.mp h x (List.mem_of_getElem? hx)

/-! ### made and raised -/
/-- what such an __init__ does: self.f1 = y1; self.f2 = y2; .. -/
def spIni (K : PySem.W.Frag) (fs : List Str) : Sp := fun vs H Q _ => ∃ (a C : Addr) (ys : List V), vs = .ref a :: ys ∧ ys.length = fs.length ∧ XC K C fs ∧ H a = some (exo a C none) ∧
  ∀ d H', H d = none → d ≠ a → H' a = some (exo a C (some d)) → H' d = some (exd d (fs.zip ys).reverse) → (∀ b, b ≠ a → b ≠ d → H' b = H b) → Q .non H'
/-- the class x, at C, may be raised with these fields -/
structure Rai (P : Program) (w : World) (K : PySem.W.Frag) (mg : Str → Option Value) (base : Heap) (x : Str) (C : Addr) (fs : List Str) : Prop where
  ex : ∃ (f : Addr) (fd : FuncData) (ps : List Str), XC K C fs ∧ XI K C f ∧ FnG P w K mg base 1 f fd ps (spIni K fs) ∧ Binds K fd ps [] ∧ mg x = some (.ref C)
theorem Rai.of {P : Program} {w : World} {K : PySem.W.Frag} {mg : Str → Option Value} {base : Heap} {x m q : Str} {C f : Addr} {fs ps : List Str} {st : Stmt} (xc : XC K C fs ∧ XI K C f) (g : mg x = some (.ref C)) (F : ∃ fd, Fun K m q st f fd)
    (b : ∀ {fd}, Fun K m q st f fd → Binds K fd ps []) (h : ∀ {fd}, Fun K m q st f fd → FnG P w K mg base 1 f fd ps (spIni K fs)) : Rai P w K mg base x C fs :=
  let ⟨fd, z⟩ := F; ⟨f, fd, ps, xc.1, xc.2, h z, b z, g⟩
section
variable {X : Cx} {x : Str} {C : Addr} {fs : List Str} {W : WX} {e : Expr} {es : List Expr} {ta : TA} {p pos pos2 : Pos}
theorem pmk_G (R : Rai X.prog X.w X.K X.mg X.base x C fs) (hr : RG 2 X.A) (tk : Takes X W) (ha : PA X (e :: es) ta) (hg : Gl X x := by rfl)
    (hdb : (x == ("__debug__" : Str)) = false := by decide) (he : starEach (e :: es) X.env = (false, eval e X.env) :: starEach es X.env := by rfl) (hpl : (backTo pos (starEach es X.env)).any (·.1) = false := by rfl) :
    PMk X (.Call (.Name x p) (e :: es) [] pos) (fun σ H Q => ta σ H fun vs H1 => vs.length = fs.length ∧ vs.length ≤ 10 ∧ ∀ d, H1 d = none → Q (.ref C) (some d) (upd H1 d (.xd (fs.zip vs).reverse))) := by
  intro pins s σ H Q I h
  obtain ⟨fI, fd, ps, xc, xi, F1, hb, hm⟩ := R.ex
  obtain ⟨nm, q, N, bs, bm, sn, sub, ab, col, dd, k0, k1, k2, k3, k5, hC, hbm⟩ := xc.o.cls
  refine wpAny_Call_Name_kw (ld_glob I hg hm ?_ hdb)
  refine PySem.W.callWith_K (h₀ := X.base) I.ok.mod.kin xc.o.kC (thn (ha.run pos pins s σ H _ I h) fun us s1 ⟨vs, H1, I1, r1, hl1, hl2, q1⟩ => ⟨I1.kIn, ?_⟩) he hpl
  show wpAny _ _ (call (.ref C) us) _ _ _
  obtain ⟨hp, g, dr, tk', os⟩ := s1
  have hsz : hp.objs.size ≤ hp.objs.size + 1 := Nat.le_succ _
  have hn : H1 (hp.objs.size + 1) = none := I1.hok.fresh hsz
  have hq : spIni X.K fs (.ref (hp.objs.size + 1) :: vs) (upd H1 (hp.objs.size + 1) (exo (hp.objs.size + 1) C none))
      (fun v H2 => v = .non ∧ ∃ (d : Addr) (fs' : List (Str × V)), H2 (hp.objs.size + 1) = some (exo (hp.objs.size + 1) C (some d)) ∧ H2 d = some (exd d fs') ∧ H1 d = none ∧ Q (.ref C) (some d) (upd (del H2 (hp.objs.size + 1)) d (.xd fs'))) (fun _ _ _ => False) := by
    refine ⟨_, C, vs, rfl, hl1, xc, upd_same, fun d H' hd hda ea ed oth => ⟨rfl, d, _, ea, ed, (upd_ne hda).symm.trans hd, ?_⟩⟩
    have hd1 : H1 d = none := (upd_ne hda).symm.trans hd
    have eH : upd (del H' (hp.objs.size + 1)) d (.xd (fs.zip vs).reverse) = upd H1 d (.xd (fs.zip vs).reverse) := by
      funext b
      by_cases hbd : b = d
      · rw [hbd, upd_same, upd_same]
      · rw [upd_ne hbd, upd_ne hbd]
        by_cases hba : b = hp.objs.size + 1
        · rw [hba, del_same, hn]
        · rw [del_ne hba, oth b hba hbd, upd_ne hba]
    rw [eH]
    exact q1 d hd1
  have kk : ∀ b o, hp.get? b = some o → ((hp.push (PySem.W.kdv_tup us)).push (PySem.HandSPX.excO C hp.objs.size)).get? b = some o := fun b o e => Heap.get?_push_of_some _ (Heap.get?_push_of_some _ e)
  have hget : ((hp.push (PySem.W.kdv_tup us)).push (PySem.HandSPX.excO C hp.objs.size)).get? (hp.objs.size + 1) = some (PySem.HandSPX.excO C hp.objs.size) := by heap_get
  have I2 : Inv X pins σ (upd H1 (hp.objs.size + 1) (exo (hp.objs.size + 1) C none)) ⟨(hp.push (PySem.W.kdv_tup us)).push (PySem.HandSPX.excO C hp.objs.size), g, dr, tk', os⟩ :=
    I1.laid (t' := tk') (a := hp.objs.size + 1) (o := exo (hp.objs.size + 1) C none) (h' := (hp.push (PySem.W.kdv_tup us)).push (PySem.HandSPX.excO C hp.objs.size)) kk hsz (exo_ok hget)
  have r2 : Vals (V.ref (hp.objs.size + 1) :: vs) (Value.ref (hp.objs.size + 1) :: us) := .cons rfl r1
  have hl : (Value.ref (hp.objs.size + 1) :: us).length = ps.length := by
    have e := r2.length
    rw [F1.nargs _ _ _ _ hq] at e
    exact e.symm
  have hus : us.length ≤ sizeLine := by
    rw [← Paired.length r1, sizeLine_eq]
    omega
  have b := hb _ (Value.ref (hp.objs.size + 1) :: us) I2.kIn (by simpa using hl)
  rw [List.append_nil] at b
  refine wpAny_call (PySem.HandSPX.call_own F.excBase_ValueError (fun Y => PySem.HandSPX.refsVE_contains Y bm hbm) (I1.kIn _ _ hC) (PySem.W.looks_findIn I1.kIn xi.i) (fun self => PySem.W.bind_fn I1.kIn self xi.t) hus
    (codeAny_mono (F1.goes _ X.stack _ _ ⟨Value.ref (hp.objs.size + 1) :: us, []⟩ (Value.ref (hp.objs.size + 1) :: us) _ _ _ ⟨hr.r.make C us [], make_guards.trans hr.g⟩ (I2.env0.make C us []) b r2 hq) fun r s' hq' => ?_))
  cases r with
  | error er => exact passes_call tk (fun _ _ _ _ z => False.elim z) pins σ _ _ er s' I2 hq'
  | ok fl =>
    cases fl with
    | ret u =>
      obtain ⟨v, H2, os2, bare2, un2, hok2, rv, ev, d, fs', ea, ed, hd1, q2⟩ := hq'
      subst ev
      obtain ⟨h2, g2, d2, t2, os'⟩ := s'
      exact ⟨rv, mk_end (raises_own xc.o.exC xc.o.tyC) I1 hsz kk un2 hok2 os2 bare2 ea ed hd1 q2⟩
    | next => exact False.elim hq'
    | brk => exact False.elim hq'
    | cont => exact False.elim hq'
/-- raise C(e, ..) -/
def tRais (C : Addr) (fs : List Str) (W : WX) (ta : TA) : TS := fun _ σ H => ta σ H fun vs H1 => vs.length = fs.length ∧ vs.length ≤ 10 ∧ ∀ d, H1 d = none → W (.ref C) (some d) σ (upd H1 d (.xd (fs.zip vs).reverse))
theorem ps_rais (R : Rai X.prog X.w X.K X.mg X.base x C fs) (hr : RG 2 X.A) (tk : Takes X W) (ha : PA X (e :: es) ta) (hc : X.calm = true := by rfl) (hg : Gl X x := by rfl)
    (hdb : (x == ("__debug__" : Str)) = false := by decide) (he : starEach (e :: es) X.env = (false, eval e X.env) :: starEach es X.env := by rfl) (hpl : (backTo pos (starEach es X.env)).any (·.1) = false := by rfl) :
    PS X (.Raise (some (.Call (.Name x p) (e :: es) [] pos)) none pos2) (tRais C fs W ta) := ps_raise hc tk (pmk_G R hr tk ha hg hdb he hpl)
/-- C(), without __init__ -/
theorem pmk_0 (q : X0 X.K C) (gC : X.mg x = some (.ref C)) (hg : Gl X x) (hdb : (x == ("__debug__" : Str)) = false := by decide) : PMk X (.Call (.Name x p) [] [] pos) (fun _ H Q => Q (.ref C) none H) := by
  intro pins s σ H Q I h
  refine wpAny_Call_Name_kw (ld_glob I hg gC ?_ hdb)
  refine PySem.W.callWith_K0 I.kIn q.k ?_
  show wpAny _ _ (call (.ref C) []) _ _ _
  obtain ⟨bm, N, nm, qn, bs, hdct, sn, sub, ab, col, dd, k0, k1, k2, k3, k5, mN, hC, hN, hni, T⟩ := exc_obj I.kIn q.q
  refine wpAny_call_exc_subT F.excBase_ValueError T hC hN hni (fun h' e hm => ?_) (by show 0 ≤ sizeLine; omega)
  exact mk_of I hm (raises_own q.s q.t) h (I.hok.gone hm.new)
def tRais0 (C : Addr) (W : WX) : TS := fun _ σ H => W (.ref C) none σ H
theorem ps_rais0 (q : X0 X.K C) (gC : X.mg x = some (.ref C)) (tk : Takes X W) (hc : X.calm = true := by rfl) (hg : Gl X x := by rfl) (hdb : (x == ("__debug__" : Str)) = false := by decide) :
    PS X (.Raise (some (.Call (.Name x p) [] [] pos)) none pos2) (tRais0 C W) := ps_raise hc tk (pmk_0 q gC hg hdb)
end

/-! ### caught: clauses with and without a name -/
abbrev Hd : Type := Value × Option Nat × (Addr → Value → Option Addr → TS)
/-- the slots behind a suite: the name is gone -/
def Ends.off (D : Ends) (i : Nat) : Ends := { nx := fun σ' H' => D.nx (σ'.set i none) H', rt := D.rt, bk := fun σ' H' => D.bk (σ'.set i none) H', ct := fun σ' H' => D.ct (σ'.set i none) H' }
def wMix (K : PySem.W.Frag) (Wout : WX) (D : Ends) : List Hd → WX
  | [] => Wout
  | (c, none, ts) :: r => fun cls d σ H => ∃ b, PySem.W.exmOne K cls c = some b ∧ if b = true then (∀ a, H a = none → ts a cls d D σ H) else wMix K Wout D r cls d σ H
  | (c, some i, ts) :: r => fun cls d σ H => ∃ b, PySem.W.exmOne K cls c = some b ∧ if b = true then (∀ a, H a = none → ts a cls d (Ends.off D i) (σ.set i (some (.ref a))) H) else wMix K Wout D r cls d σ H
inductive MixOk (X : Cx) : List ExceptHandler → List Hd → Prop
  | nil : MixOk X [] []
  | bare {x : Str} {c : Value} {ts : Addr → Value → Option Addr → TS} {b₀ : Stmt} {suite : List Stmt} {np pos' : Pos} {hds : List ExceptHandler} {l : List Hd} (hc : Names X x c)
      (hsu : ∀ (a : Addr) (oe : Obj) (cls : Value) (d : Option Addr) (pn : List (Addr × Obj)), Zc cls d oe → (∃ vs, oe.data = .fields vs) → PSs (X.suite a ((a, oe) :: pn)) (b₀ :: suite) (ts a cls d)) (r : MixOk X hds l) :
      MixOk X (.ExceptHandler (some (.Name x np)) none (b₀ :: suite) pos' :: hds) ((c, none, ts) :: l)
  | as {x n : Str} {c : Value} {i : Nat} {ts : Addr → Value → Option Addr → TS} {b₀ : Stmt} {suite : List Stmt} {np pos' : Pos} {hds : List ExceptHandler} {l : List Hd} (hc : Names X x c) (hi : X.N[i]? = some n) (hln : X.env.kindOf n = some .local)
      (hsu : ∀ (a : Addr) (oe : Obj) (cls : Value) (d : Option Addr) (pn : List (Addr × Obj)), Zc cls d oe → (∃ vs, oe.data = .fields vs) → PSs (X.suite a ((a, oe) :: pn)) (b₀ :: suite) (ts a cls d)) (r : MixOk X hds l) :
      MixOk X (.ExceptHandler (some (.Name x np)) (some n) (b₀ :: suite) pos' :: hds) ((c, some i, ts) :: l)
section
variable {X : Cx} {body : List Stmt} {h₀ : ExceptHandler} {hds : List ExceptHandler} {l : List Hd} {pos : Pos} {tb : WX → TS} {Wout : WX}
def tTry (K : PySem.W.Frag) (Wout : WX) (l : List Hd) (tb : WX → TS) : TS := fun D σ H => tb (wMix K Wout D l) D σ H
theorem ps_mix (hN : X.N.Nodup) (tk : Takes X Wout)
    (hb : ∀ (W : WX) (pn : List (Addr × Obj)) (xe : Value → Shared → Prop), Takes (X.tr pn xe) W → PassesOwn (model X.prog X.w) X.A X.env xe → PSs (X.tr pn xe) body (tb W))
    (hh : MixOk X (h₀ :: hds) l) (hs : X.stack = X.env :: X.outer := by rfl) (hf : X.env.frame = some X.env.locals := by rfl) : PS X (.Try body (h₀ :: hds) [] [] pos) (tTry X.K Wout l tb) := by
  refine ⟨fun pins s σ H D I h => ?_⟩
  have ok := I.ok
  have hfr : X.A.frames = some (X.env :: X.outer) := by rw [ok.frames, hs]
  refine wpAny_Try_except ?_
  refine wpAny_mono ((hb (wMix X.K Wout D l) (X.pn ++ pins) (fun e s₁ => wpAny (model X.prog X.w) X.A (noteFrame e X.env) (fun _ s₂ => wpAny (model X.prog X.w) X.A (setFlight e none) (fun _ s₃ =>
    wpAny (model X.prog X.w) X.A (handleBy e X.env (h₀ :: hds)) (SP X pins D) X.xe s₃) X.xe s₂) X.xe s₁) (fun u s' xx => ?_) PassesOwn.looking).run [] s σ H D (I.toTry _) h) (fun f s1 hsp => ?_) (fun e s1 he => he)
  · obtain ⟨a, B, sI, pins', σ', H', cls, d, rfl, J', nb, up, sky, na, os, ag, w⟩ := xx
    have J : Inv X pins σ' H' sI := J'.ofTry ok
    have sky' : Sky B (X.env :: X.outer) a (Zc cls d) X.env.locals s'.heap := by rw [← hs]; exact sky
    show wpAny (model X.prog X.w) X.A (noteFrame (.ref a) X.env) _ _ _
    refine Sky.land Zc.steady hfr hf sky' fun h3 fl3 up3 => ?_
    have J3 : Inv X pins σ' H' { s' with heap := h3 } := J.landed nb fl3.1 (up.trans up3) os ag
    obtain ⟨oe3, vs3, he3, hz3, hd3⟩ := fl3.there
    have notFr : ∀ {h : Heap} {o : Obj} {vs : Array Value}, h.FunFrames B (X.env :: X.outer) → h.get? a = some o → o.data = .fields vs → a ∉ frs (X.env :: X.outer) := fun {h o vs} ff e dd hm => by
      obtain ⟨_, o', e', hnf⟩ := ff.mem hm
      rw [e] at e'; cases e'
      exact hnf _ dd
    have nfr := notFr fl3.2.2.1 he3 hd3
    have nL : a ≠ X.env.locals := fun z => nfr (List.mem_filterMap.mpr ⟨X.env, List.mem_cons_self, by rw [hf, z]⟩)
    have nF : a ∉ X.fs := fun hm => by
      obtain ⟨e, he, q⟩ := List.mem_filterMap.mp hm
      exact nfr (List.mem_filterMap.mpr ⟨e, List.mem_cons_of_mem _ he, q⟩)
    have S3 := J3.suite he3 hd3 na nL nF
    have LT : PySem.W.Looks (model X.prog X.w) h3 (typeOf (.ref a)) cls := fun A Q E s k q => wpAny_typeOf_ref (k _ _ he3) (by rw [hz3.1]; exact q)
    have test : ∀ {x : Str} {c : Value} {np : Pos} {Q : Value → Shared → Prop} {E : Value → Shared → Prop}, Names X x c → Q c { s' with heap := h3 } → wpAny (model X.prog X.w) (X.A.mark (some (.ref a))) (eval (.Name x np) X.env) Q E { s' with heap := h3 } := fun {x c np Q E} hc q => by
      obtain ⟨hg, hdbg, hm | ⟨hm, hv, hnn⟩⟩ := hc
      · exact ld_glob (X := X.suite a ((a, oe3) :: (X.pn ++ pins))) S3 hg hm q hdbg
      · exact ld_blt (X := X.suite a ((a, oe3) :: (X.pn ++ pins))) S3 hg hm hv q hnn hdbg
    have go : ∀ {hds' : List ExceptHandler} {l' : List Hd}, MixOk X hds' l' → wMix X.K Wout D l' cls d σ' H' →
        wpAny (model X.prog X.w) X.A (handleBy (.ref a) X.env hds') (SP X pins D) X.xe { s' with heap := h3 } := by
      intro hds' l' hk
      induction hk with
      | nil =>
        intro w
        refine wpAny_handleBy_nil ?_
        obtain ⟨k1, k2, k3, oe, vs, T, oT, ts', he, hz, hd, h1, hr⟩ := id fl3
        unfold PySem.passOn
        refine wpAny_bind (wpAny_field he hd h1 ?_)
        rw [if_neg (show ¬ ((Value.ref T == Value.none) = true) from by simp)]
        have fin : wpAny (model X.prog X.w) X.A (setFlight (.ref a) X.env.frame) (fun _ s4 => wpAny (model X.prog X.w) X.A (throw (.ref a) : Sem Flow) (SP X pins D) X.xe s4) X.xe { s' with heap := h3 } := by
          rw [hf]
          refine HandSPX.setFlight_upZ fl3 fun h4 hh4 up4 => wpAny_throw (tk _ _ ?_)
          exact ⟨a, B, sI, pins, σ', H', cls, d, rfl, J, nb, (up.trans up3).trans up4, .inr (.inr (by rw [hs]; exact hh4)), na, os, ag, w⟩
        first
          | exact wpAny_bind (wpAny_pure (wpAny_bind fin))
          | exact wpAny_bind fin
      | @bare x c ts b₀ suite np pos' hds2 l2 hc hsu r ih =>
        intro w
        obtain ⟨b, hb1, hw⟩ := w
        refine wpAny_handleBy_cons (codeAny_handlers_test ?_) (by intro q; cases q)
        have LM := PySem.W.exm_one (M := model X.prog X.w) (J3.kIn) LT hb1
        refine test hc (LM.here ?_)
        cases b with
        | true =>
          refine codeAny_handlers_suite ?_
          refine HandSPX.lands_againZ fl3 fun h4 fl4 up4 => ?_
          have J4 : Inv X pins σ' H' { s' with heap := h4 } := J.landed nb fl4.1 ((up.trans up3).trans up4) os ag
          obtain ⟨oe4, vs4, he4, hz4, hd4⟩ := fl4.there
          have S4 := J4.suite he4 hd4 na nL nF
          refine wpAny_mono ((hsu a oe4 cls d (X.pn ++ pins) hz4 ⟨_, hd4⟩).run [] _ _ H' _ S4 (hw a na)) (fun f s6 hsp => ?_) (fun _ _ z => False.elim z)
          cases f with
          | next =>
            obtain ⟨σ6, H6, S6, q6⟩ := hsp
            exact ⟨_, _, S6.unsuite ok, q6⟩
          | brk =>
            obtain ⟨σ6, H6, S6, q6⟩ := hsp
            exact ⟨_, _, S6.unsuite ok, q6⟩
          | cont =>
            obtain ⟨σ6, H6, S6, q6⟩ := hsp
            exact ⟨_, _, S6.unsuite ok, q6⟩
          | ret u =>
            obtain ⟨v6, σ6, H6, S6, r6, q6⟩ := hsp
            exact ⟨_, _, _, S6.unsuite ok, r6, q6⟩
        | false =>
          show wpAny _ X.A (handleBy (.ref a) X.env hds2) _ _ _
          exact ih hw
      | @as x n c i ts b₀ suite np pos' hds2 l2 hc hi hln hsu r ih =>
        intro w
        obtain ⟨b, hb1, hw⟩ := w
        have hloc : Loc X.env.scope n := .inl hln
        refine wpAny_handleBy_cons (codeAny_handlers_test ?_) (by intro q; cases q)
        have LM := PySem.W.exm_one (M := model X.prog X.w) (J3.kIn) LT hb1
        refine test hc (LM.here ?_)
        cases b with
        | true =>
          refine codeAny_handlers_suite_as ?_
          refine HandSPX.lands_againZ fl3 fun h4 fl4 up4 => ?_
          have J4 : Inv X pins σ' H' { s' with heap := h4 } := J.landed nb fl4.1 ((up.trans up3).trans up4) os ag
          obtain ⟨oe4, vs4, he4, hz4, hd4⟩ := fl4.there
          have S4 := J4.suite he4 hd4 na nL nF
          refine store_ok (X := X.suite a ((a, oe4) :: (X.pn ++ pins))) (v := .ref a) S4 hN hi hloc rfl (fun s5 S5 => ?_) (.inr hln)
          refine wpAny_mono ((hsu a oe4 cls d (X.pn ++ pins) hz4 ⟨_, hd4⟩).run [] s5 _ H' _ S5 (hw a na)) (fun f s6 hsp => ?_) (fun _ _ z => False.elim z)
          have end_ : ∀ {σ6 : St} {H6 : Hp} {Q : Shared → Prop}, Inv (X.suite a ((a, oe4) :: (X.pn ++ pins))) [] σ6 H6 s6 → (∀ s7, Inv X pins (σ6.set i none) H6 s7 → Q s7) →
              wpAny (model X.prog X.w) X.A (do bindName X.env n .none; unbindBehindTheSuite X.env n pos') (fun _ s7 => Q s7) X.xe s6 := fun {σ6 H6 Q} S6 hq => gone_ok (S6.unsuite ok) hN hi hln hq
          cases f with
          | next =>
            obtain ⟨σ6, H6, S6, q6⟩ := hsp
            exact end_ S6 fun s7 J7 => ⟨_, _, J7, q6⟩
          | brk =>
            obtain ⟨σ6, H6, S6, q6⟩ := hsp
            exact end_ S6 fun s7 J7 => ⟨_, _, J7, q6⟩
          | cont =>
            obtain ⟨σ6, H6, S6, q6⟩ := hsp
            exact end_ S6 fun s7 J7 => ⟨_, _, J7, q6⟩
          | ret u =>
            obtain ⟨v6, σ6, H6, S6, r6, q6⟩ := hsp
            exact end_ S6 fun s7 J7 => ⟨_, _, _, J7, r6, q6⟩
        | false =>
          show wpAny _ X.A (handleBy (.ref a) X.env hds2) _ _ _
          exact ih hw
    exact go hh w
  · cases f with
    | next =>
      obtain ⟨σ', H', J', q⟩ := hsp
      exact wpAny_execs_nil ⟨σ', H', J'.ofTry ok, q⟩
    | brk =>
      obtain ⟨σ', H', J', q⟩ := hsp
      exact ⟨σ', H', J'.ofTry ok, q⟩
    | cont =>
      obtain ⟨σ', H', J', q⟩ := hsp
      exact ⟨σ', H', J'.ofTry ok, q⟩
    | ret u =>
      obtain ⟨v, σ', H', J', r, q⟩ := hsp
      exact ⟨v, σ', H', J'.ofTry ok, r, q⟩
end

/-! ### asked in a suite -/
/-- isinstance(e, c) -/
def rIsX (K : PySem.W.Frag) (a : Addr) (cls : Value) (d : Option Addr) : List V → Hp → VK → Prop := fun xs H Q => ∃ (D : Addr) (c : V) (cv : Value) (b : Bool), xs = [.ref a, c] ∧ cls = .ref D ∧ ExcC K D ∧ (∀ u, RelV c u → u = cv) ∧ PySem.W.kitOne K (.ref D) cv = some b ∧
  (∀ dd, d = some dd → ∃ fs, H dd = some (.xd fs)) ∧ Q (.bl b) H
theorem call_isX {X : Cx} {a : Addr} {oe : Obj} {cls : Value} {d : Option Addr} {pn : List (Addr × Obj)} (hz : Zc cls d oe) (hf : ∃ vs, oe.data = .fields vs) : CallR (X.suite a ((a, oe) :: pn)) (.builtin "isinstance") (rIsX X.K a cls d) := by
  intro pins s σ H xs us Q I r h
  obtain ⟨D, c, cv, b, rfl, rfl, C, hcv, e, hdd, q⟩ := h
  cases r with
  | cons rx rr =>
    cases rr with
    | cons rt rr =>
      cases rr
      cases rx
      have ec := hcv _ rt
      subst ec
      obtain ⟨hget, _⟩ := I.pin (a, oe) (List.mem_append.mpr (.inl List.mem_cons_self))
      obtain ⟨vs, hv⟩ := hf
      have hcl : (PySem.W.clsIn X.K D).isSome = true := by
        have h := C.hd
        unfold PySem.W.hasDictIn at h
        cases q : PySem.W.clsIn X.K D with
        | some _ => rfl
        | none => rw [q] at h; cases h
      have go : ∀ {od : Option Obj}, PySem.W.InstAt s.heap a oe D od → _ := fun {od} J =>
        PySem.W.kia_one (prog := X.prog) (w := X.w) (A := (X.suite a ((a, oe) :: pn)).A) (E := (X.suite a ((a, oe) :: pn)).xe) (Q := EP (X.suite a ((a, oe) :: pn)) pins σ Q) (PySem.W.kitx_exc (od := od) hcl C.hg C.hk C.hs C.ha C.hn C.ht C.hm) I.kIn J e (fun z => nomatch z) fun tk => ⟨.bl b, H, I.kept (t' := tk) fun _ _ z => z, rfl, q⟩
      cases d with
      | none => exact go (od := none) ⟨hget, hz.1, by unfold PySem.W.notCls; rw [hv] <;> rfl, by rw [hz.2]; trivial⟩
      | some dd =>
        obtain ⟨fs, ed⟩ := hdd dd rfl
        have hx : ObjOk X.prog X.w H s.heap dd (.xd fs) := I.hok dd _ ed
        obtain ⟨mA, ⟨od, _, _, ho, _⟩, _⟩ := hx
        exact go (od := some od) ⟨hget, hz.1, by unfold PySem.W.notCls; rw [hv] <;> rfl, by rw [hz.2]; exact ho⟩
/-- e.f -/
def tXg (K : PySem.W.Frag) (a : Addr) (cls : Value) (d : Option Addr) (f : Str) (te : TE) : TE := fun σ H Q => te σ H fun x H1 => x = .ref a ∧ ∃ (C dd : Addr) (fs : List Str) (kvs : List (Str × V)) (v : V), cls = .ref C ∧ XC K C fs ∧ f ∈ fs ∧ d = some dd ∧ H1 dd = some (.xd kvs) ∧ kvs.lookup f = some v ∧ Q v H1
theorem pe_xg {X : Cx} {a : Addr} {oe : Obj} {cls : Value} {d : Option Addr} {pn : List (Addr × Obj)} {e : Expr} {te : TE} {pos : Pos} {n : Str}
    (hz : Zc cls d oe) (hf : ∃ vs, oe.data = .fields vs) (he : PE (X.suite a ((a, oe) :: pn)) e te) (hb : attributeBase e n X.env (eval e X.env) = eval e X.env := by rfl) :
    PE (X.suite a ((a, oe) :: pn)) (.Attribute e n pos) (tXg X.K a cls d n te) := by
  refine ⟨fun pins s σ H Q I h => ?_⟩
  refine attr_of hb (thn (he.run pins s σ H _ I h) fun u s1 hh => ?_)
  obtain ⟨x, H1, I1, rx, ex, C, dd, fs, kvs, v, ec, xc, hm, ed, ea, l, q⟩ := hh
  subst ex
  obtain rfl : u = Value.ref a := rx
  subst ec
  subst ed
  obtain ⟨ha, _⟩ := I1.pin (a, oe) (List.mem_append_left _ List.mem_cons_self)
  obtain ⟨vs, hd⟩ := hf
  have hx : ObjOk X.prog X.w H1 s1.heap dd (.xd kvs) := I1.hok dd _ ea
  obtain ⟨mA, hns, hr⟩ := hx
  obtain ⟨od, ho, hl⟩ := lookIn_ns hns
  obtain ⟨u, hu, ru⟩ := RelO.some_of (v := v) (o := mA n) (by rw [← l]; exact hr n)
  have J : PySem.W.InstAt s1.heap a oe C (some od) := ⟨ha, hz.1, by unfold PySem.W.notCls; rw [hd] <;> rfl, by rw [hz.2]; exact ho⟩
  exact HandSPX.exc_get I1.kIn J xc.x.ga xc.x.gg xc.x.exC (PySem.W.findObj_own xc.x.hdC (xc.no n hm) rfl (by rw [hl, hu])) (handed_of ru) ⟨v, H1, I1.tok _, ru, q⟩
/-- what leaves a def -/
theorem tkE {P : Program} {w : World} {K : PySem.W.Frag} {mg : Str → Option Value} {base : Heap} {N : List Str} {qual : Str} {sc : Scope} {f : Addr} {cdv : Value} {A : Around} {outer : List Env} {s : Shared} {H : Hp} {E : XK} :
    Takes (cxOf (L2.CX P w) P w K mg base N qual sc f cdv A outer s H E) (fun cls d _ H => E cls d H) := takes_of rfl rfl rfl rfl
/-! ### the Hook: the kit's facts, one Bool more, and the statics among what is read -/
def frY (g : Addr → Option Obj) (n : Nat) : PySem.W.Frag := He.frT g (cStatics :: He.asD g n)
def obsY (n : Nat) (fa : List He.Fa) (fn : List He.DefD) (ex : PySem.W.Frag → Bool) (g : Addr → Option Obj) : He.AlD × Bool := (He.obsD fa fn (frY g n), ex (frY g n))
def hookY (n : Nat) (fa : List He.Fa) (fn : List He.DefD) (ex : PySem.W.Frag → Bool) : PySem.W.Hook where
  α := He.AlD × Bool
  obs := fun s => obsY n fa fn ex s.heap.get?
  val := fun _ => (He.valD fn, true)
  says := fun _ h => ∃ K : PySem.W.Frag, K.In h ∧ He.SaysD fa fn K ∧ ex K = true
  of := fun _ _ e => ⟨_, He.frT_in, congrArg Prod.fst e, congrArg Prod.snd e⟩
  keeps := fun _ _ _ ⟨K, hK, c⟩ k => ⟨K, PySem.W.Frag.In.keeps hK k, c⟩
theorem obsY_eq {n : Nat} {fa : List He.Fa} {fn : List He.DefD} {ex : PySem.W.Frag → Bool} {g : Addr → Option Obj} {s : Shared} (h : ∀ a, g a = s.heap.get? a) : obsY n fa fn ex g = (hookY n fa fn ex).obs s := by
  have e : g = s.heap.get? := funext h
  rw [e] <;> rfl
end FG

/-! GHo: C.m(self, ..) of an own class; d.pop(t) of a dict with tuple keys; d.values() of such a (locked) dict. Own layer over HandS. -/
namespace FG
open PySem PySem.Spec L2
open PyProof.Rows hiding St

/-! ### C.m(e, ..) -/
/-- what the written part says: C.m is the def at f -/
structure UnbK (K : PySem.W.Frag) (C : Addr) (m : Str) (f : Addr) : Prop where
  r : PySem.W.readsIn K C (.type "type") = true
  e : PySem.W.findCls K (.ref C) (.type "type") m = some (.val (.ref f))
  t : PySem.W.typeIn K (.ref C) = some (.type "type")
/-- what isinstance asks of an own class's instances -/
structure TyK (K : PySem.W.Frag) (D : Addr) : Prop where
  ha : PySem.W.findIn K (.ref D) "__class__" = some (some (.builtin "object.__class__"))
  hn : PySem.W.specialIn K (.builtin "object.__class__") "__get__" = some (some (.builtin "getset_descriptor.__get__"))
  htk : PySem.W.takesIn K (.builtin "object.__class__") = some true
  hm : PySem.W.mroIn K D (.type "object") = some true
def tyB (K : PySem.W.Frag) (D : Addr) : Bool := decide (PySem.W.findIn K (.ref D) "__class__" = some (some (.builtin "object.__class__"))) && (decide (PySem.W.specialIn K (.builtin "object.__class__") "__get__" = some (some (.builtin "getset_descriptor.__get__"))) &&
  (decide (PySem.W.takesIn K (.builtin "object.__class__") = some true) && decide (PySem.W.mroIn K D (.type "object") = some true)))
theorem tyB_ok {K : PySem.W.Frag} {D : Addr} (h : tyB K D = true) : TyK K D := by
  unfold tyB at h
  obtain ⟨h1, h⟩ := ba2 h
  obtain ⟨h2, h⟩ := ba2 h
  obtain ⟨h3, h4⟩ := ba2 h
  exact ⟨of_decide_eq_true h1, of_decide_eq_true h2, of_decide_eq_true h3, of_decide_eq_true h4⟩
theorem TyK.ins {K : PySem.W.Frag} {D a dx : Addr} {fs : List (Str × V)} {H : Hp} (t : TyK K D) (cl : Cls K D) (e : H a = some (.ins D dx fs)) : TyX K H (.ref a) (.ref D) := .base (.ins e cl t.ha t.hn t.htk t.hm)
def unbB (K : PySem.W.Frag) (C : Addr) (m : Str) (f : Addr) : Bool := PySem.W.readsIn K C (.type "type") && ((match PySem.W.findCls K (.ref C) (.type "type") m with
  | some (.val v) => decide (v = .ref f)
  | _ => false) && decide (PySem.W.typeIn K (.ref C) = some (.type "type")))
theorem unbB_ok {K : PySem.W.Frag} {C f : Addr} {m : Str} (h : unbB K C m f = true) : UnbK K C m f := by
  unfold unbB at h
  obtain ⟨h1, h⟩ := ba2 h
  obtain ⟨h2, h3⟩ := ba2 h
  refine ⟨h1, ?_, of_decide_eq_true h3⟩
  split at h2
  · rename_i v e
    rw [e, of_decide_eq_true h2]
  · cases h2
theorem getm_cls {prog : Program} {w : World} {A : Around} {E : Value → Shared → Prop} {s : Shared} {K : PySem.W.Frag} {C f : Addr} {m : Str} {pl : Sem Bool} {Q : Value × List Value → Shared → Prop} (X : K.In s.heap) (t : UnbK K C m f)
    (h : Q (.ref f, []) { s with toks := s.toks + 1 }) : wpAny (model prog w) A (getMethod (.ref C) m pl) Q E s := by
  have L0 : PySem.W.Looks (model prog w) s.heap (typeOf (.ref C)) (.type "type") := PySem.W.looks_typeIn X t.t
  have hg : PySem.W.findIn K (.type "type") "__getattribute__" = some (some (.builtin "type.__getattribute__")) := by
    have := t.r
    simp only [PySem.W.readsIn, Bool.and_eq_true, beq_iff_eq] at this
    exact this.1.1.2
  unfold getMethod specialOf
  refine wpAny_bind (wpAny_bind (L0.here ((PySem.W.looks_findIn X hg).here ?_)))
  dsimp only
  rw [if_pos PySem.W.canon_tga]
  refine wpAny_bind (wpAny_mono (Q := fun v => Q (v, [])) (E := E) ?_ (fun _ _ z => wpAny_pure z) fun _ _ z => z)
  exact PySem.W.cls_value X t.r t.e rfl h
/-- C.m of the module keeps sp -/
structure Unb (P : Program) (w : World) (K : PySem.W.Frag) (mg : Str → Option Value) (base : Heap) (k : Nat) (x m : Str) (sp : Sp) : Prop where
  ex : ∃ (C f : Addr) (fd : FuncData) (ps : List Str), UnbK K C m f ∧ FnG P w K mg base k f fd ps sp ∧ Binds K fd ps [] ∧ mg x = some (.ref C) ∧ PySem.W.keepIn K (.ref f) = true
theorem Unb.of {P : Program} {w : World} {K : PySem.W.Frag} {mg : Str → Option Value} {base : Heap} {k : Nat} {x m n q : Str} {C f : Addr} {ps : List Str} {st : Stmt} {sp : Sp} (u : UnbK K C m f) (g : mg x = some (.ref C)) (F : ∃ fd, Fun K n q st f fd)
    (b : ∀ {fd}, Fun K n q st f fd → Binds K fd ps []) (h : ∀ {fd}, Fun K n q st f fd → FnG P w K mg base k f fd ps sp) : Unb P w K mg base k x m sp :=
  let ⟨fd, z⟩ := F; ⟨C, f, fd, ps, u, h z, b z, g, z.kp⟩
section
variable {X : Cx} {k : Nat} {sp : Sp} {W : WX} {x m : Str} {np pos apos : Pos} {e : Expr} {es : List Expr} {t : TA}
theorem gu {pl : Sem Bool} (c : Unb X.prog X.w X.K X.mg X.base k x m sp) (hr : RG k X.A) (tk : Takes X W) (ha : PA X (e :: es) t) (hg : Gl X x := by rfl) (hdb : (x == ("__debug__" : Str)) = false := by decide)
    (hst : starEach (e :: es) X.env = (false, eval e X.env) :: starEach es X.env := by rfl) (hpl : (backTo pos (starEach es X.env)).any (·.1) = false := by rfl)
    (ht : eval (.Call (.Attribute (.Name x np) m apos) (e :: es) [] pos) X.env = (do let ov ← eval (.Name x np) X.env; standAt apos.atName; let (f, first) ← holding [ov] (getMethod ov m pl); callWith pos f first (backTo pos (starEach (e :: es) X.env)) (backToKw pos (keywordEach [] X.env))) := by rfl) :
    PE X (.Call (.Attribute (.Name x np) m apos) (e :: es) [] pos) (tG sp W t) := by
  obtain ⟨C, f, fd, ps, u, F, hb, hm, hk⟩ := c.ex
  refine ⟨fun pins s σ H Q I h => PySem.W.methodCall_KW (pl := pl) (ld_glob I hg hm ?_ hdb) ht⟩
  refine getm_cls I.kIn u ?_
  have I2 : Inv X pins σ H { s with toks := s.toks + 1 } := I.tok _
  refine PySem.W.callWith_K (first := []) (h₀ := X.base) I2.ok.mod.kin hk (thn (ha.run pos pins { s with toks := s.toks + 1 } σ H _ I2 h) fun us s2 ⟨vs, H2, I3, r, q2⟩ => ⟨I3.kIn, ?_⟩) hst hpl
  exact runs F hr hb tk I3 r q2
end

/-! ### d.pop(t), t there -/
def rPopT1 : V → List V → Hp → VK → Prop := fun x xs H Q => ∃ (a : Addr) (kvs : List (List L2.Key × V)) (k : List L2.Key) (b : Addr) (v : V), x = .ref a ∧ xs = [.ref b] ∧ H a = some (.dT kvs) ∧ H b = some (.tup (k.map kV)) ∧
  valV kvs k = some v ∧ Q v (upd H a (.dT (dropK kvs k)))
theorem mt_popT1 {X : Cx} (hu : X.A.units + 1 < cLine) : MtR X "dict.pop" rPopT1 := by
  intro pins s σ H x xs v us Q I rx rxs h
  obtain ⟨a, kvs, k, b, v0, rfl, rfl, ha, hb, hv, q⟩ := h
  cases rx
  rw [Vals.ref1 rxs]
  obtain ⟨z, hd, xs', rel, dd⟩ := dt_of I.hok ha
  have hz : xs'.length ≤ sizeLine := by rw [← Paired.length rel]; exact z
  have r := rel.val k
  rw [hv] at r
  obtain ⟨p, hp, rv⟩ : ∃ p, atKey xs' k = some p ∧ RelV v0 p.2 := by
    cases ev : atKey xs' k with
    | none => rw [ev] at r; exact (show False from r).elim
    | some p => rw [ev] at r; exact ⟨p, rfl, r⟩
  refine call_pop_heap (knd := tupleKind (mixKind X.prog X.w)) (k := k) (.inl rfl) (PySem.F.args_dict_pop_2 _ _) (tupleKind_room_in1 hu) (key_of I.hok hb) hd dd hp (fun h' dd' hs => ?_) hz
  obtain ⟨o, es, ep, hq, h2, h3, h4, _, h5⟩ := dd'
  have I2 : Inv X pins σ (upd H a (.dT (dropK kvs k))) { s with heap := h', toks := s.toks + (tupleKind (mixKind X.prog X.w)).draws k } :=
    d_write I (by rw [ha]; exact True.intro) hs ⟨o, hq⟩ ⟨Nat.le_trans (dropK_le kvs k) z, hd, _, (L2.DX.KT_drop k rel).keeps (fun c ys ec => (by rw [upd_ne (ne_of ec ha (fun z => nomatch z))]; exact ec)), o, es, ep, hq, h2, h3, h4, h5⟩
  exact ⟨v0, _, I2, rv, q⟩

/-! ### for v in d.values(), d locked, its keys tuples -/
def Itvt (d : Addr) (o : Obj) (kvs : List (List L2.Key × V)) : It :=
  ⟨fun i H => H d = some (.frz o (.dT kvs)) ∧ i < kvs.length, fun i H x H' => H' = H ∧ ∃ k, kvs[i]? = some (k, x), fun i H => H d = some (.frz o (.dT kvs)) ∧ kvs.length ≤ i⟩
def iValsT (td : TE) : TI := fun σ H R => td σ H fun x H1 => ∃ d o kvs, x = .ref d ∧ H1 d = some (.frz o (.dT kvs)) ∧ R (Itvt d o kvs) H1
section
variable {X : Cx} {pins : List (Addr × Obj)} {σ : St} {H : Hp} {s : Shared} {d : Addr} {o : Obj}
theorem frzTv {kvs : List (List L2.Key × V)} (I : Inv X pins σ H s) (h : H d = some (.frz o (.dT kvs))) :
    (d == sysModules) = false ∧ s.heap.get? d = some o ∧ o.ExactDict ∧ ∃ (es : Array DictEntry) (ep : Nat), o.data = .dict es ep ∧ es.size = kvs.length ∧
      ∀ (i : Nat) (k : List L2.Key) (v : V), kvs[i]? = some (k, v) → ∃ en : DictEntry, es[i]? = some en ∧ RelV v en.val := by
  obtain ⟨hd, z, hs, xs, pr, o', es, ep, ho, hx, hdt, he, _⟩ := I.hok d _ h
  rw [hd] at ho
  cases ho
  refine ⟨hs, hd, hx, es, ep, hdt, ?_, fun i k v e => ?_⟩
  · have l1 : es.size = xs.length := size_of_entries he
    have l2 : kvs.length = xs.length := Paired.length pr
    omega
  · obtain ⟨b, hb, e1, e2, e3⟩ := paired_get pr e
    have q := entry_at he i
    rw [hb] at q
    exact ⟨_, q, e3⟩
theorem ep_eq {o : Obj} {es es' : Array DictEntry} {ep ep' : Nat} (h : o.data = .dict es ep) (h' : o.data = .dict es' ep') : es = es' ∧ ep = ep' := by
  rw [h] at h'; cases h'; exact ⟨rfl, rfl⟩
theorem turn_valsT {P : Program} {w : World} {K : PySem.W.Frag} {tg : Expr} {es : Array DictEntry} {ep : Nat} {kvs : List (List L2.Key × V)} (it : Addr) (hod : o.data = .dict es ep) : Turn P w K tg (Itvt d o kvs) [it] it (fun i h => h.get? it = some (DVw.valOb d i kvs.length ep)) where
  mem := by simp
  obj := fun i h st b hb => by
    have e : b = it := by simpa using hb
    subst e
    exact ⟨_, st, fun v z => by cases z⟩
  keep := fun i h h' st k => k it (by simp) _ st
  item := by
    intro X hP hw hK hc i pins s σ H E I hf st hg
    subst hP hw hK
    obtain ⟨hd, hi⟩ := hg
    obtain ⟨f0, f1, f2, f3, f4, f5⟩ := hf it (by simp)
    obtain ⟨hs, hgd, hx, es', ep', hdt, hsz, ent⟩ := frzTv I hd
    obtain ⟨rfl, rfl⟩ := ep_eq hod hdt
    obtain ⟨⟨k, v⟩, hkv⟩ : ∃ p, kvs[i]? = some p := ⟨kvs[i], List.getElem?_eq_getElem hi⟩
    obtain ⟨en, hen, rv⟩ := ent i k v hkv
    refine DVw.val_item st hgd hdt hsz hen fun h' st' sb => ?_
    have I1 : Inv X pins σ H { s with heap := h' } := I.turned (t' := s.toks) (fun b ob hb e => (sb.2 b hb).trans e) f0 f1 f3 f4 f5
    exact ⟨en.val, rfl, go_of (s := { s with heap := h' }) st' rfl rfl (by decide) ⟨v, H, I1, rv, ⟨rfl, k, hkv⟩, st', fun b hb => (hf b hb).1⟩⟩
  done := by
    intro X hP hw hK hc i pins s σ H E I hf st hg
    subst hP hw hK
    obtain ⟨hd, hi⟩ := hg
    obtain ⟨f0, f1, f2, f3, f4, f5⟩ := hf it (by simp)
    obtain ⟨hs, hgd, hx, es', ep', hdt, hsz, ent⟩ := frzTv I hd
    obtain ⟨rfl, rfl⟩ := ep_eq hod hdt
    exact DVw.val_end (I.ok.hd hc) st hgd hdt hsz (Array.getElem?_eq_none (by omega)) fun h' eb => ⟨rfl, I.turned (t' := s.toks) (fun b ob hb e => eb b ob hb e) f0 f1 f3 f4 f5⟩
  self := fun A i s Q E st h => wpAny_pyIter_valiter (d := d) (i := i) (n := kvs.length) (ep := ep) ⟨_, st, rfl, rfl⟩ h
theorem meetsVals {prog : Program} {w : World} {d : Addr} {es : Array DictEntry} {ep : Nat} (hd : (d == sysModules) = false) :
    MeetsIn prog w (Builtin.«dict.values» ⟨[.ref d], []⟩) (fun _ R s => DT.Raw s.heap d es ep ∧
      R (.ok (.ret (.ref s.heap.objs.size))) { s with heap := s.heap.push { cls := .type "dict_values", data := .fields #[.ref d] } }) :=
  .of_wp fun A R s ⟨hm, h⟩ => by
    show wpAny _ _ (Builtin.Dict.noArgs "values" ⟨[.ref d], []⟩ >>= _) _ _ s
    refine wpAny_bind ?_
    unfold Builtin.Dict.noArgs
    refine wpAny_bind (wpAny_notOrdered_dict hm.typeIs ?_)
    show wpAny _ _ (pure d) _ _ s
    refine wpAny_pure ?_
    show wpAny _ _ (Builtin.Dict.showsAll d >>= _) _ _ s
    unfold Builtin.Dict.showsAll
    rw [if_neg (by rw [hd]; exact Bool.false_ne_true)]
    refine wpAny_bind (wpAny_pure ?_)
    exact wpAny_bind (wpAny_newObj_type (wpAny_pure ⟨_, rfl, h⟩))
end
theorem pi_valuesT {X : Cx} {tg e : Expr} {td : TE} {apos cpos : Pos} (he : PE X e td) (hbase : attributeBase e "values" X.env (eval e X.env) = eval e X.env := by rfl) (hline : (apos.endLine == cpos.line) = true := by rfl) : PI X tg (.Call (.Attribute e "values" apos) [] [] cpos) (iValsT td) := by
  refine ⟨fun pins s σ H R I h => ?_⟩
  refine wpAny_Call_method (T := "dict") (id := "dict.values") hbase rfl hline F.plainAttrs_dict F.slot_dict_values F.type_dict_values (thn (he.run pins s σ H _ I h) fun u s1 ⟨x, H1, I1, rx, d, o, kvs, ex, hd, q⟩ => ?_)
  subst ex
  obtain rfl : u = Value.ref d := rx
  obtain ⟨hs, hgd, hx, es, ep, hdt, hsz, ent⟩ := frzTv I1 hd
  have hm : DT.Raw s1.heap d es ep := ⟨o, hgd, hx, hdt⟩
  refine ⟨hm.typeIs, (fun b e => by injection e with e; subst e; exact ⟨o, hgd, hx.2.1⟩), ?_⟩
  have I2 : Inv X pins σ H1 { s1 with heap := s1.heap.push { cls := .type "dict_values", data := .fields #[.ref d] } } := I1.kept (t' := s1.toks) fun b ob q => Heap.get?_push_of_some _ q
  have fin : wpAny (model X.prog X.w) X.A (pyIter (.ref s1.heap.objs.size)) (PIE X pins σ tg R) X.xe { s1 with heap := s1.heap.push { cls := .type "dict_values", data := .fields #[.ref d] } } := by
    refine DSub.iter_vals (a := d) (es := es) (ep := ep) (ob := o) (Heap.get?_push_size _ rfl) (Heap.get?_push_of_some _ hgd) hdt ?_
    rw [hsz]
    exact pi_one (tk := s1.toks) I2 _ (turn_valsT _ hdt) (Heap.get?_push_size _ rfl) q
  show wpAny _ _ (callWith cpos (.builtin "dict.values") [.ref d] [] []) _ X.xe s1
  exact method_meetsIn F.slot_dict_values F.entry_dict_values rfl (PySem.evalArgs_none ⟨rfl, hm.typeIs, F.args_dict_values_1 _, _, meetsVals (es := es) (ep := ep) hs, hm, fin⟩)
theorem walk_valsT {d : Addr} {o : Obj} {kvs : List (List L2.Key × V)} : Walk (Itvt d o kvs) kvs.length (fun H => H d = some (.frz o (.dT kvs))) (fun i H x H' => H' = H ∧ ∃ k, kvs[i]? = some (k, x)) :=
  ⟨fun _ _ hi q => ⟨q, hi⟩, fun _ q => ⟨q, Nat.le_refl _⟩, fun _ _ _ _ _ _ y => y⟩
/-! ### xs[a:b:c] -/
def tSl3 (K : PySem.W.Frag) (te : TE) (tl th ts : TO) : TE := fun σ H Q => te σ H fun x H1 => tl σ H1 fun l H2 => th σ H2 fun u H3 => ts σ H3 fun c H4 => ∃ a xs, x = .ref a ∧ SqL K H4 a xs ∧ c ≠ some 0 ∧
  ∀ p ys, H4 p = none → (∀ y ∈ ys, y ∈ xs) → ys.length ≤ xs.length → Q (.ref p) (upd H4 p (.lst ys))
theorem pick_vals {xs : List V} {its : List Value} (r : Vals xs its) : ∀ idx : List Nat, ∃ ys, Vals ys (idx.filterMap (its.toArray[·]?)) ∧ (∀ y ∈ ys, y ∈ xs) := by
  intro idx
  induction idx with
  | nil => exact ⟨[], .nil, fun y h => by cases h⟩
  | cons i idx ih =>
    obtain ⟨ys, h1, h2⟩ := ih
    cases e : xs[i]? with
    | none =>
      have l1 : xs.length ≤ i := List.getElem?_eq_none_iff.mp e
      have e2 : its.toArray[i]? = none := by
        rw [List.getElem?_toArray]
        exact List.getElem?_eq_none_iff.mpr (by rw [← r.length]; exact l1)
      exact ⟨ys, by rw [List.filterMap_cons, e2]; exact h1, h2⟩
    | some x =>
      obtain ⟨b, hb, hx⟩ := paired_get r e
      have e2 : its.toArray[i]? = some b := by rw [List.getElem?_toArray]; exact hb
      refine ⟨x :: ys, by rw [List.filterMap_cons, e2]; exact .cons hx h1, fun y hy => ?_⟩
      rcases List.mem_cons.mp hy with z | z
      · subst z; exact List.mem_of_getElem? e
      · exact h2 y z
theorem pick_len {items : Array Value} {lo hi st : Option Int} : (slicePick items lo hi st).size ≤ items.size := by
  unfold slicePick
  rw [List.size_toArray]
  refine Nat.le_trans (List.length_filterMap_le _ _) ?_
  refine sliceRange_length_le _ _ _ _ (fun hp => ?_) (fun hm => ?_)
  · unfold sliceBounds at hp ⊢
    simp only at hp ⊢
    constructor
    · cases lo with
      | none => simp [hp]
      | some i => simp only [hp, if_true]; omega
    · cases hi with
      | none => simp [hp]
      | some i => simp only [hp, if_true]; omega
  · unfold sliceBounds at hm ⊢
    simp only at hm ⊢
    constructor
    · cases lo with
      | none => simp [hm]
      | some i => simp only [hm, if_false]; omega
    · cases hi with
      | none => simp [hm]
      | some i => simp only [hm, if_false]; omega
theorem pe_sl3 {X : Cx} {e : Expr} {lo hi st : Option Expr} {te : TE} {tl th ts : TO} {p3 pos : Pos} (he : PE X e te) (hl : PO X lo tl) (hh : PO X hi th) (hst : PO X st ts)
    (hsub : ∀ a b : Addr, subscripted (.Slice lo hi st p3) false (.ref a) (.ref b) = operate [.ref a, .ref b] (getItem (.ref a) (.ref b)) := by intro _ _; with_unfolding_all rfl) :
    PE X (.Subscript e (.Slice lo hi st p3) pos) (tSl3 X.K te tl th ts) := by
  refine ⟨fun pins s σ H Q I h => ?_⟩
  refine Subscript_ (thn (he.run pins s σ H _ I h) fun v s1 ⟨x, H1, I1, r1, q1⟩ => ?_)
  refine wpAny_Slice (thn (hl.run pins s1 σ H1 _ I1 q1) fun vl s2 ⟨l, H2, I2, pl, q2⟩ => ?_)
  refine thn (hh.run pins s2 σ H2 _ I2 q2) fun vu s3 ⟨u, H3, I3, pu, q3⟩ => ?_
  refine thn (hst.run pins s3 σ H3 _ I3 q3) fun vs s4 ⟨o, H4, I4, ps, q4⟩ => ?_
  obtain ⟨a, xs, ex, hx, h0, q⟩ := q4
  subst ex
  cases r1
  have I5 : Inv X pins σ H4 { s4 with heap := s4.heap.push { cls := .type "slice", data := .fields #[vl, vu, vs] } } := I4.kept (t' := s4.toks) fun b ob q => Heap.get?_push_of_some _ q
  obtain ⟨its, r, ht, hz⟩ := I5.list hx
  have hlen := r.length
  show wpAny (model X.prog X.w) X.A (subscriptTail e (.Slice lo hi st p3) (.ref a) (.ref s4.heap.objs.size)) (EP X pins σ Q) X.xe { s4 with heap := s4.heap.push { cls := .type "slice", data := .fields #[vl, vu, vs] } }
  refine tail_any (ops := [.ref a, .ref s4.heap.objs.size]) ht.isList.typeIs (PySem.slot_list_getitem.lookup) ?_ (hsub _ _)
  refine wpAny_getItem_list_slice ht.isList (Heap.IsSliceOf.new _ vl vu vs) pl pu ps h0 ?_ (by rw [List.size_toArray]; omega)
  have hp := pick_len (items := its.toArray) (lo := l) (hi := u) (st := o)
  obtain ⟨ys, hy, hm⟩ := pick_vals r (sliceRange (sliceBounds l u o its.toArray.size).1 (sliceBounds l u o its.toArray.size).2.1 (sliceBounds l u o its.toArray.size).2.2)
  have hs : slicePick its.toArray l u o = ((sliceRange (sliceBounds l u o its.toArray.size).1 (sliceBounds l u o its.toArray.size).2.1 (sliceBounds l u o its.toArray.size).2.2).filterMap (its.toArray[·]?)).toArray := rfl
  rw [hs, List.size_toArray, ← hy.length, List.size_toArray, ← hlen] at hp
  rw [hs]
  refine ⟨.ref _, _, I5.laid (t' := s4.toks) (o := .lst ys) (fun b ob q => Heap.get?_push_of_some _ q) (Nat.le_refl _) ?_, rfl, q _ ys (I5.hok.fresh (Nat.le_refl _)) hm hp⟩
  exact ⟨Nat.le_trans hp hz, _, 0, hy, Heap.get?_push_size _ rfl⟩
theorem ksl3 (K : PySem.W.Frag) {X : Cx} {e : Expr} {lo hi st : Option Expr} {te : TE} {tl th ts : TO} {p3 pos : Pos} (he : PE X e te) (hl : PO X lo tl) (hh : PO X hi th) (hst : PO X st ts) (hK : X.K = K := by rfl)
    (hsub : ∀ a b : Addr, subscripted (.Slice lo hi st p3) false (.ref a) (.ref b) = operate [.ref a, .ref b] (getItem (.ref a) (.ref b)) := by intro _ _; with_unfolding_all rfl) :
    PE X (.Subscript e (.Slice lo hi st p3) pos) (tSl3 K te tl th ts) := by subst hK; exact pe_sl3 he hl hh hst hsub
/-! ### xs != [] -/
def rNeE (K : PySem.W.Frag) : R2 := fun x y H Q => ∃ a b xs, x = .ref a ∧ y = .ref b ∧ SqL K H a xs ∧ SqL K H b [] ∧ Q (.bl (!xs.isEmpty)) H
theorem kneE {X : Cx} (K : PySem.W.Frag) (hu : X.A.units + 64 < cLine) (hK : X.K = K := by rfl) : OpR X (compareOp .NotEq) (rNeE K) := by
  subst hK
  intro pins s σ H x y v u Q I rx ry h
  obtain ⟨a, b, xs, rfl, rfl, ha, hb, q⟩ := h
  cases (show v = Value.ref a from rx)
  cases (show u = Value.ref b from ry)
  obtain ⟨us, r1, p1, _⟩ := I.list ha
  obtain ⟨ws, r2, p2, _⟩ := I.list hb
  cases r2
  cases r1 with
  | nil => exact SeqAt.RcNeAt.lists (e := fun _ => true) p1.isList p2.isList rfl (by omega) (fun j h1 _ => absurd h1 (Nat.not_lt_zero j)) _ _ _ _ ⟨.bl false, H, I, rfl, q⟩
  | cons c d => exact SeqAt.RcNeAt.lists_lengths p1.isList p2.isList (by simp) (by omega) _ _ _ _ ⟨.bl true, H, I, rfl, q⟩
end FG

/-! GHot: a def that is called, within an except suite, with what was caught. Own layer over HandS. -/
namespace FG
open PySem PySem.Spec L2
open PyProof.Rows hiding St

/-- what is wanted, by the exception's address, class and fields -/
abbrev SpX := Addr → Value → Option Addr → List V → Hp → VK → Prop
structure FnX (P : Program) (w : World) (K : PySem.W.Frag) (mg : Str → Option Value) (base : Heap) (k : Nat) (f : Addr) (fd : FuncData) (ps : List Str) (sp : SpX) : Prop where
  len : ∀ a cls d vs H Q, sp a cls d vs H Q → vs.length = ps.length
  run : ∀ (A : Around) (outer : List Env) (s : Shared) (H : Hp) (args : Args) (us : List Value) (vs : List V) (Q : VK) (p : Addr × Obj) (cls : Value) (d : Option Addr), L2H.RoomH k A → Zc cls d p.2 → (∃ z, p.2.data = .fields z) → L2H.PinOk outer H s p → Env0 P w K mg base A outer s H →
    BindsTo s fd args (ps.zip us) → Vals vs us → sp p.1 cls d vs H Q → codeAny (model P w) A (.call (.ref f) args) (CR (L2.CX P w) outer P w H s Q fun _ _ _ => False) s
section
variable {P : Program} {w : World} {K : PySem.W.Frag} {mg : Str → Option Value} {base : Heap}
/-- a def of the text, by its body -/
theorem FnX.of {x qual : Str} {st : Stmt} {f : Addr} {fd : FuncData} {N ps : List Str} {k : Nat} {sp : SpX} (F : Fun K x qual st f fd) (S : FnScope N ps (defScope st)) (hn : ∀ a cls d vs H Q, sp a cls d vs H Q → vs.length = ps.length)
    (hb : ∀ (cdv : Value) (A : Around) (outer : List Env) (s : Shared) (H : Hp) (vs : List V) (Q : VK) (p : Addr × Obj) (cls : Value) (d : Option Addr), L2H.RoomH k (A.deeper (envOfC qual (defScope st) s.heap.objs.size f cdv)) → Zc cls d p.2 → (∃ z, p.2.data = .fields z) → sp p.1 cls d vs H Q →
      ∃ t, PSs (L2H.cxH (L2.CX P w) P w K mg base N qual (defScope st) f cdv A outer s H (fun _ _ _ => False) p) (defBody st) t ∧ t { nx := fun _ H' => Q .non H', rt := Q } (start N vs) H) : FnX P w K mg base (k + 1) f fd ps sp := by
  obtain ⟨oc, od, kV, doc, pm, an, cdv, ct, osl, rfl, lk, hcd⟩ := F.ex
  refine ⟨hn, fun A outer s H ar us vs Q p cls d hg hz hf hpin env0 bnd rel hsp => ?_⟩
  have len := hn _ _ _ _ _ _ hsp
  have inK : K.In s.heap := env0.mod.kin.keeps fun b o z => (env0.bs b o z).1
  have nol : s.heap.NoLimit := env0.mod.nolimit.keeps fun b o z => (env0.bs b o z).1
  have hk : ∀ y ∈ ps.zip us, (defScope st).names.lookup y.1 = some .local ∨ ((defScope st).names.lookup y.1 = some .cell ∧ ((cellsFrom (s.heap.objs.size + 1) (defScope st).names []).lookup y.1).isSome = true) := by
    rintro ⟨n, v⟩ hy
    exact (S.par n (List.of_mem_zip hy).1).elim .inl fun q => .inr ⟨q, PySem.W.cellsFrom_some _ _ _ (.inl q)⟩
  refine codeAny_call_function hg.depth (inK _ _ lk) rfl S.co S.gen rfl (PySem.W.codeRec_of inK hcd) (bnd _ _ _ _ ?_)
  refine wpAny_newFunctionEnv_cells S.kind hk fun env ee s1 inc => ?_
  subst ee
  refine ⟨nol.keeps inc.toInCall.keep, codeAny_func ?_⟩
  obtain ⟨t, ht, hq⟩ := hb cdv A outer s H vs Q p cls d (hg.deeper _) hz hf hsp
  have I0 : Inv (L2H.cxH (L2.CX P w) P w K mg base N qual (defScope st) f cdv A outer s H (fun _ _ _ => False) p) [] (start N vs) H s1 := L2H.inv_startH S hpin env0 len rel inc
  refine wpAny_mono (ht.run [] s1 (start N vs) H _ I0 hq) (fun fl s2 hs => ?_) fun _ _ hs => hs
  have fin : ∀ {σ2 : St} {H2 : Hp} {v : V} {u : Value}, Inv (L2H.cxH (L2.CX P w) P w K mg base N qual (defScope st) f cdv A outer s H (fun _ _ _ => False) p) [] σ2 H2 s2 → RelV v u → Q v H2 → CE outer P w H s Q u s2 := by
    intro σ2 H2 v u J rv q
    exact ⟨v, H2, J.os, J.bare, J.base, J.hok, rv, q⟩
  match fl, hs with
  | .ret u, ⟨v, σ2, H2, J, rv, q⟩ => exact fin J rv q
  | .next, ⟨σ2, H2, J, q⟩ => exact fin (v := V.non) (u := Value.none) J rfl q
  | .brk, ⟨_, _, _, q⟩ => exact q.elim
  | .cont, ⟨_, _, _, q⟩ => exact q.elim
/-- the module's def x, called with what was caught, keeps sp -/
structure CalX (P : Program) (w : World) (K : PySem.W.Frag) (mg : Str → Option Value) (base : Heap) (k : Nat) (x : Str) (sp : SpX) : Prop where
  ex : ∃ (f : Addr) (fd : FuncData) (ps : List Str), FnX P w K mg base k f fd ps sp ∧ mg x = some (.ref f) ∧ PySem.W.keepIn K (.ref f) = true ∧ Binds K fd ps []
theorem CalX.of {k : Nat} {x n q : Str} {f : Addr} {ps : List Str} {st : Stmt} {sp : SpX} (g : mg x = some (.ref f)) (F : ∃ fd, Fun K n q st f fd) (b : ∀ {fd}, Fun K n q st f fd → Binds K fd ps []) (h : ∀ {fd}, Fun K n q st f fd → FnX P w K mg base k f fd ps sp) : CalX P w K mg base k x sp :=
  let ⟨fd, z⟩ := F; ⟨f, fd, ps, h z, g, z.kp, b z⟩
end
section
variable {X : Cx} {k : Nat} {sp : SpX} {x : Str} {p pos : Pos} {e : Expr} {es : List Expr} {t : TA} {a : Addr} {oe : Obj} {cls : Value} {d : Option Addr} {pn : List (Addr × Obj)}
theorem gx (c : CalX X.prog X.w X.K X.mg X.base k x sp) (hr : RG k X.A) (hz : Zc cls d oe) (hf : ∃ z, oe.data = .fields z) (ha : PA (X.suite a ((a, oe) :: pn)) (e :: es) t) (hg : Gl X x := by rfl) (hdb : (x == ("__debug__" : Str)) = false := by decide)
    (he : starEach (e :: es) X.env = (false, eval e X.env) :: starEach es X.env := by rfl) (hpl : (backTo pos (starEach es X.env)).any (·.1) = false := by rfl) :
    PE (X.suite a ((a, oe) :: pn)) (.Call (.Name x p) (e :: es) [] pos) (fun σ H Q => t σ H fun vs H1 => sp a cls d vs H1 Q) := by
  obtain ⟨f, fd, ps, F, hm, hk, hb⟩ := c.ex
  refine ⟨fun pins s σ H Q I h => wpAny_Call_Name_kw (ld_glob (X := X.suite a ((a, oe) :: pn)) I hg hm ?_ hdb)⟩
  refine PySem.W.callWith_K (h₀ := X.base) I.ok.mod.kin hk (thn (ha.run pos pins s σ H _ I h) fun us s1 ⟨vs, H1, I1, r, q⟩ => ⟨I1.kIn, ?_⟩) he hpl
  have ln : us.length = ps.length := r.length.symm.trans (F.len _ _ _ _ _ _ q)
  have b := hb s1 us I1.kIn (by simpa using ln)
  rw [List.append_nil] at b
  have P1 := I1.pin (a, oe) (List.mem_append_left _ List.mem_cons_self)
  have hpin : L2H.PinOk X.stack H1 s1 (a, oe) := ⟨P1.1, P1.2.1, fun hm => (List.mem_cons.mp (I1.stkSub a hm)).elim P1.2.2.1 P1.2.2.2.1, P1.2.2.2.2⟩
  refine wpAny_call (codeAny_mono (F.run (X.A.mark (some (.ref a))) X.stack s1 H1 ⟨us, []⟩ us vs Q (a, oe) cls d ⟨hr.r.dp, hr.r.un⟩ hz hf hpin I1.env0 b r q) fun q s2 hq => ?_)
  match q, hq with
  | .error e, hq => exact passAt (X := X.suite a ((a, oe) :: pn)) takes0 σ pins H1 s1 e s2 I1 hq
  | .ok (.ret u), hq => exact I1.after hq
  | .ok .next, hq => exact hq.elim
  | .ok .brk, hq => exact hq.elim
  | .ok .cont, hq => exact hq.elim
end
/-! asked of it where it is known -/
section
variable {X : Cx} {a : Addr} {oe : Obj} {cls : Value} {d : Option Addr}
theorem call_isH (hz : Zc cls d oe) (hf : ∃ vs, oe.data = .fields vs) (hp : (a, oe) ∈ X.pn) : CallR X (.builtin "isinstance") (rIsX X.K a cls d) := by
  intro pins s σ H xs us Q I r h
  obtain ⟨D, c, cv, b, rfl, rfl, C, hcv, e, hdd, q⟩ := h
  cases r with
  | cons rx rr =>
    cases rr with
    | cons rt rr =>
      cases rr
      cases rx
      have ec := hcv _ rt
      subst ec
      obtain ⟨hget, _⟩ := I.pin (a, oe) (List.mem_append.mpr (.inl hp))
      obtain ⟨vs, hv⟩ := hf
      have hcl : (PySem.W.clsIn X.K D).isSome = true := by
        have h := C.hd
        unfold PySem.W.hasDictIn at h
        cases q : PySem.W.clsIn X.K D with
        | some _ => rfl
        | none => rw [q] at h; cases h
      have go : ∀ {od : Option Obj}, PySem.W.InstAt s.heap a oe D od → _ := fun {od} J =>
        PySem.W.kia_one (prog := X.prog) (w := X.w) (A := X.A) (E := X.xe) (Q := EP X pins σ Q) (PySem.W.kitx_exc (od := od) hcl C.hg C.hk C.hs C.ha C.hn C.ht C.hm) I.kIn J e (fun z => nomatch z) fun tk => ⟨.bl b, H, I.kept (t' := tk) fun _ _ z => z, rfl, q⟩
      cases d with
      | none => exact go (od := none) ⟨hget, hz.1, by unfold PySem.W.notCls; rw [hv] <;> rfl, by rw [hz.2]; trivial⟩
      | some dd =>
        obtain ⟨fs, ed⟩ := hdd dd rfl
        have hx : ObjOk X.prog X.w H s.heap dd (.xd fs) := I.hok dd _ ed
        obtain ⟨mA, ⟨od, _, _, ho, _⟩, _⟩ := hx
        exact go (od := some od) ⟨hget, hz.1, by unfold PySem.W.notCls; rw [hv] <;> rfl, by rw [hz.2]; exact ho⟩
theorem pe_xh {e : Expr} {te : TE} {pos : Pos} {n : Str} (hz : Zc cls d oe) (hf : ∃ vs, oe.data = .fields vs) (hp : (a, oe) ∈ X.pn) (he : PE X e te) (hb : attributeBase e n X.env (eval e X.env) = eval e X.env := by rfl) :
    PE X (.Attribute e n pos) (tXg X.K a cls d n te) := by
  refine ⟨fun pins s σ H Q I h => ?_⟩
  refine attr_of hb (thn (he.run pins s σ H _ I h) fun u s1 hh => ?_)
  obtain ⟨x, H1, I1, rx, ex, C, dd, fs, kvs, v, ec, xc, hm, ed, ea, l, q⟩ := hh
  subst ex
  obtain rfl : u = Value.ref a := rx
  subst ec
  subst ed
  obtain ⟨ha, _⟩ := I1.pin (a, oe) (List.mem_append_left _ hp)
  obtain ⟨vs, hd⟩ := hf
  have hx : ObjOk X.prog X.w H1 s1.heap dd (.xd kvs) := I1.hok dd _ ea
  obtain ⟨mA, hns, hr⟩ := hx
  obtain ⟨od, ho, hl⟩ := lookIn_ns hns
  obtain ⟨u, hu, ru⟩ := RelO.some_of (v := v) (o := mA n) (by rw [← l]; exact hr n)
  have J : PySem.W.InstAt s1.heap a oe C (some od) := ⟨ha, hz.1, by unfold PySem.W.notCls; rw [hd] <;> rfl, by rw [hz.2]; exact ho⟩
  exact HandSPX.exc_get I1.kIn J xc.x.ga xc.x.gg xc.x.exC (PySem.W.findObj_own xc.x.hdC (xc.no n hm) rfl (by rw [hl, hu])) (handed_of ru) ⟨v, H1, I1.tok _, ru, q⟩
end
theorem hotU {k : Nat} {A : Around} (h : L2H.RoomH k A) : A.units + 64 < cLine := by have := h.un; omega
/-! xs.count(True), xs all truths -/
def rCntB (K : PySem.W.Frag) : V → List V → Hp → VK → Prop := fun x xs H Q => ∃ (p : Addr) (bs : List Bool) (k : Bool), x = .ref p ∧ xs = [.bl k] ∧ SqL K H p (bs.map V.bl) ∧ Q (.int (bs.count k : Nat)) H
theorem kcntB {X : Cx} (K : PySem.W.Frag) (hu : X.A.units + 64 < cLine) (hK : X.K = K := by rfl) : MtR X "list.count" (rCntB K) := by
  subst hK
  intro pins s σ H x xs v us Q I rx rxs h
  obtain ⟨p, bs, k, rfl, rfl, hs, q⟩ := h
  cases rx
  obtain ⟨u, rfl, ru⟩ := rxs.one
  cases (show u = Value.bool k from ru)
  obtain ⟨its, rv, ⟨o, n, ho, hc, hdn, hd⟩, hlen⟩ := I.list hs
  have dp : ∀ bs : List Bool, DpAll X.K H (bs.map V.bl) (bs.map PyData.bool) := fun bs => by
    induction bs with
    | nil => exact .nil
    | cons b bs ih => exact .cons (.bl b) ih
  obtain ⟨as, rs⟩ := Dp.readsAll I _ _ its (dp bs) rv
  have e1 : ∀ bs : List Bool, (bs.map PyData.bool).countP (fun y => PyData.eqv y (.bool k)) = bs.count k := fun bs => by
    induction bs with
    | nil => rfl
    | cons b bs ih =>
      rw [List.map_cons, List.countP_cons, List.count_cons, ih]
      congr 1
  refine PySem.SeqAt.count_list_data (vs := its.toArray) (xs := bs.map PyData.bool) (d := .bool k) (bs := []) ⟨o, ho, hc, n, hd⟩ (by simpa using rs) (Reads.bool k) ?_ ?_ ?_ ?_
  · have pl : ∀ bs : List Bool, PyData.plainAll (bs.map PyData.bool) = true := fun bs => by
      induction bs with
      | nil => simp only [List.map_nil, PyData.plainAll]
      | cons b bs ih => simp only [List.map_cons, PyData.plainAll, PyData.plain, ih, Bool.and_self]
    exact pl bs
  · simp only [PyData.plain]
  · simp only [PyData.depth]; omega
  · rw [e1]
    exact ⟨.int (bs.count k : Nat), H, I.tok _, ⟨_, rfl⟩, q⟩
/-! [..], apart from the table of modules -/
def tLstN (t : TA) : TE := fun σ H Q => t σ H fun xs H1 => xs.length ≤ sizeLine ∧ ∀ p, H1 p = none → p ≠ sysModules → Q (.ref p) (upd H1 p (.lst xs))
theorem pe_lstN {X : Cx} {es : List Expr} {pos : Pos} {t : TA} (h : PA X es t) : PE X (.List es pos) (tLstN t) := by
  refine ⟨fun pins s σ H Q I hq => ?_⟩
  refine wpAny_List_spliced (thn (h.run pos pins s σ H _ I hq) fun us s1 ⟨xs, H1, I1, r, z, q⟩ => ⟨by rw [← r.length]; exact z, ?_⟩)
  have hf : H1 s1.heap.objs.size = none := I1.hok.fresh (Nat.le_refl _)
  refine ⟨.ref s1.heap.objs.size, upd H1 s1.heap.objs.size (.lst xs), I1.laid (t' := s1.toks) (fun b u e => Heap.get?_push_of_some _ e) (Nat.le_refl _) ?_, rfl, q _ hf (Nat.ne_of_gt I1.big)⟩
  exact ⟨z, us, 0, r, Heap.get?_push_size _ rfl⟩
/-! xs == ys: other lengths, or data -/
def rEqL (K : PySem.W.Frag) : R2 := fun x y H Q => (∃ a b xs ys, x = .ref a ∧ y = .ref b ∧ SqL K H a xs ∧ SqL K H b ys ∧ xs.length ≠ ys.length ∧ Q (.bl false) H) ∨ rEqD K x y H Q
theorem keqL {X : Cx} (K : PySem.W.Frag) (hu : X.A.units + 64 < cLine) (hK : X.K = K := by rfl) : OpR X (compareOp .Eq) (rEqL K) := by
  subst hK
  intro pins s σ H x y v u Q I rx ry h
  rcases h with ⟨a, b, xs, ys, rfl, rfl, ha, hb, hl, q⟩ | h
  · cases (show v = Value.ref a from rx)
    cases (show u = Value.ref b from ry)
    obtain ⟨us, r1, p1, _⟩ := I.list ha
    obtain ⟨ws, r2, p2, _⟩ := I.list hb
    exact SeqAt.RcAt.lists_lengths p1.isList p2.isList (by simpa [← r1.length, ← r2.length] using hl) (by omega) _ _ _ _ ⟨.bl false, H, I, rfl, q⟩
  · exact op_eqD hu pins s σ H x y v u Q I rx ry h
end FG

/-! short tactics of our own, local to this text -/
local macro_rules | `(tactic| walk_at "ne") => `(tactic| first | assumption | (apply Ne.symm; assumption) | grind)
local macro_rules | `(tactic| walk_at "hl") => `(tactic| first | assumption | exact L2.upd_same | exact (L2.upd_ne (by walk_at "ne")).trans (by walk_at "hl"))
local macro_rules | `(tactic| walk_at "c") => `(tactic| first | omega | (refine ⟨?_, ?_⟩ <;> omega) | (refine ⟨?_, ?_, ?_⟩ <;> omega) | decide)
/-- one step of a reading -/
local macro_rules | `(tactic| walk_at "r1") => `(tactic| first
  | refine ⟨_, rfl, ?_⟩
  | refine ⟨_, _, rfl, rfl, ?_⟩
  | refine ⟨_, _, _, _, rfl, rfl, SqL.of (by walk_at "hl"), rfl, ?_⟩
  | refine ⟨_, _, rfl, .inl (SqL.of (by walk_at "hl")), ?_⟩
  | refine ⟨_, _, rfl, rfl, (by walk_at "c"), ?_⟩
  | refine ⟨_, _, rfl, rfl, .inl (by walk_at "c"), ?_⟩)
local macro_rules | `(tactic| walk_at "rd") => `(tactic| repeat walk_at "r1")
namespace Lw
open PySem PySem.Spec L2 FG
open PyProof.Rows hiding St
def top (i : Nat) : Stmt := PySem.Challenge.pw_framerooms_k15_pictures_and_twins.main.body.getD i (.Pass ⟨0, 0, 0, 0⟩)
abbrev s_is_number : Stmt := top 12
abbrev s_is_whole : Stmt := top 13
abbrev s_is_pair : Stmt := top 14
abbrev s__law_cell : Stmt := top 23
abbrev s__law_box : Stmt := top 24
abbrev s__law_take : Stmt := top 25
abbrev s__law_house : Stmt := top 26
abbrev s__law_standing : Stmt := top 27
abbrev s__law_row : Stmt := top 28
abbrev s__law_begin : Stmt := top 29
abbrev s__law_finish : Stmt := top 30
abbrev s__law_given : Stmt := top 31
abbrev s__law_used : Stmt := top 32
abbrev s__law_make : Stmt := top 33
abbrev s__law_one : Stmt := top 34
abbrev s__law_value : Stmt := top 35
abbrev s__law_here : Stmt := top 36
abbrev s__law_deed : Stmt := top 37
abbrev s__law_picture : Stmt := top 38
abbrev s__law_copy : Stmt := top 39
abbrev s__law_by : Stmt := top 40
abbrev s__law_caught : Stmt := top 41
abbrev s__law_apart : Stmt := top 42
abbrev s__law_no_cell : Stmt := top 43
abbrev s__law_rooms_right : Stmt := top 44
abbrev s__law_right : Stmt := top 45
abbrev s_law : Stmt := top 46
abbrev s_NoNumber___init__ : Stmt := inClass (top 2) 0
abbrev s_NoValue___init__ : Stmt := inClass (top 3) 0
abbrev s_NoFrame___init__ : Stmt := inClass (top 4) 0
abbrev s_Gone___init__ : Stmt := inClass (top 5) 0
abbrev s_TooMany___init__ : Stmt := inClass (top 7) 0
abbrev s_Full___init__ : Stmt := inClass (top 8) 0
abbrev s_NoWay___init__ : Stmt := inClass (top 9) 0
abbrev s_NoCell___init__ : Stmt := inClass (top 10) 0
abbrev s_Frames___init__ : Stmt := inClass (top 17) 0
abbrev s_Frames_need_begun : Stmt := inClass (top 17) 1
abbrev s_Frames_need_standing : Stmt := inClass (top 17) 2
abbrev s_Frames_need_more : Stmt := inClass (top 17) 3
abbrev s_Frames_begin : Stmt := inClass (top 17) 4
abbrev s_Frames_finish : Stmt := inClass (top 17) 5
abbrev s_Frames_clear : Stmt := inClass (top 17) 6
abbrev s_Frames_stands : Stmt := inClass (top 17) 7
abbrev s_Frames_inside : Stmt := inClass (top 17) 8
abbrev s_Frames_row : Stmt := inClass (top 17) 9
abbrev s_Frames_within : Stmt := inClass (top 17) 10
abbrev s_Frames_ended_by : Stmt := inClass (top 17) 11
abbrev s_Frames_standing : Stmt := inClass (top 17) 12
abbrev s_Frames_begun : Stmt := inClass (top 17) 13
abbrev s_House___init__ : Stmt := inClass (top 21) 0
abbrev s_House_make : Stmt := inClass (top 21) 1
abbrev s_House_clear : Stmt := inClass (top 21) 2
abbrev s_House_need_room : Stmt := inClass (top 21) 3
abbrev s_House_need_cell : Stmt := inClass (top 21) 4
abbrev s_House_is_value : Stmt := inClass (top 21) 5
abbrev s_House_get : Stmt := inClass (top 21) 6
abbrev s_House_put : Stmt := inClass (top 21) 7
abbrev s_House_size : Stmt := inClass (top 21) 8
abbrev s_House_cells : Stmt := inClass (top 21) 9
abbrev s_House_rooms : Stmt := inClass (top 21) 10
abbrev s_House_used : Stmt := inClass (top 21) 11
abbrev s_House_left : Stmt := inClass (top 21) 12
abbrev s_House_limit : Stmt := inClass (top 21) 13
abbrev s_House_greatest : Stmt := inClass (top 21) 14
abbrev s_House_picture : Stmt := inClass (top 21) 15
abbrev s_House_twin : Stmt := inClass (top 21) 16
abbrev s_House_need_begun : Stmt := inClass (top 17) 1
abbrev s_House_need_standing : Stmt := inClass (top 17) 2
abbrev s_House_need_more : Stmt := inClass (top 17) 3
abbrev s_House_begin : Stmt := inClass (top 17) 4
abbrev s_House_finish : Stmt := inClass (top 17) 5
abbrev s_House_stands : Stmt := inClass (top 17) 7
abbrev s_House_inside : Stmt := inClass (top 17) 8
abbrev s_House_row : Stmt := inClass (top 17) 9
abbrev s_House_within : Stmt := inClass (top 17) 10
abbrev s_House_ended_by : Stmt := inClass (top 17) 11
abbrev s_House_standing : Stmt := inClass (top 17) 12
abbrev s_House_begun : Stmt := inClass (top 17) 13
theorem sc_is_number : FnScope ["thing"] ["thing"] (defScope s_is_number) := ⟨rfl, rfl, rfl, by decide +kernel, rfl, by decide +kernel, by decide +kernel⟩
theorem sc_is_whole : FnScope ["thing", "low", "high"] ["thing", "low", "high"] (defScope s_is_whole) := ⟨rfl, rfl, rfl, by decide +kernel, rfl, by decide +kernel, by decide +kernel⟩
theorem sc_is_pair : FnScope ["thing", "one"] ["thing"] (defScope s_is_pair) := ⟨rfl, rfl, rfl, by decide +kernel, rfl, by decide +kernel, by decide +kernel⟩
theorem sc__law_cell : FnScope ["_law_script", "_law_k"] ["_law_script", "_law_k"] (defScope s__law_cell) := ⟨rfl, rfl, rfl, by decide +kernel, rfl, by decide +kernel, by decide +kernel⟩
theorem sc__law_box : FnScope ["_law_cell_here"] ["_law_cell_here"] (defScope s__law_box) := ⟨rfl, rfl, rfl, by decide +kernel, rfl, by decide +kernel, by decide +kernel⟩
theorem sc__law_take : FnScope ["_law_box_here", "_law_many", "_law_digit", "_law_one_here", "_law_other"] ["_law_box_here", "_law_many"] (defScope s__law_take) := ⟨rfl, rfl, rfl, by decide +kernel, rfl, by decide +kernel, by decide +kernel⟩
theorem sc__law_house : FnScope ["_law_limit"] ["_law_limit"] (defScope s__law_house) := ⟨rfl, rfl, rfl, by decide +kernel, rfl, by decide +kernel, by decide +kernel⟩
theorem sc__law_standing : FnScope ["_law_model", "_law_k"] ["_law_model"] (defScope s__law_standing) := ⟨rfl, rfl, rfl, by decide +kernel, rfl, by decide +kernel, by decide +kernel⟩
theorem sc__law_row : FnScope ["_law_model", "_law_frame", "_law_found"] ["_law_model", "_law_frame"] (defScope s__law_row) := ⟨rfl, rfl, rfl, by decide +kernel, rfl, by decide +kernel, by decide +kernel⟩
theorem sc__law_begin : FnScope ["_law_model", "_law_frame"] ["_law_model", "_law_frame"] (defScope s__law_begin) := ⟨rfl, rfl, rfl, by decide +kernel, rfl, by decide +kernel, by decide +kernel⟩
theorem sc__law_finish : FnScope ["_law_model", "_law_frame", "_law_ended", "_law_k"] ["_law_model", "_law_frame"] (defScope s__law_finish) := ⟨rfl, rfl, rfl, by decide +kernel, rfl, by decide +kernel, by decide +kernel⟩
theorem sc__law_given : FnScope ["_law_model", "_law_frame", "_law_way"] ["_law_model", "_law_frame"] (defScope s__law_given) := ⟨rfl, rfl, rfl, by decide +kernel, rfl, by decide +kernel, by decide +kernel⟩
theorem sc__law_used : FnScope ["_law_model", "_law_way"] ["_law_model"] (defScope s__law_used) := ⟨rfl, rfl, rfl, by decide +kernel, rfl, by decide +kernel, by decide +kernel⟩
theorem sc__law_make : FnScope ["_law_model", "_law_frame", "_law_size", "_law_way", "_law_other"] ["_law_model", "_law_frame", "_law_size"] (defScope s__law_make) := ⟨rfl, rfl, rfl, by decide +kernel, rfl, by decide +kernel, by decide +kernel⟩
theorem sc__law_one : FnScope ["_law_box_here", "_law_some", "_law_way", "_law_at"] ["_law_box_here", "_law_some"] (defScope s__law_one) := ⟨rfl, rfl, rfl, by decide +kernel, rfl, by decide +kernel, by decide +kernel⟩
theorem sc__law_value : FnScope ["_law_box_here", "_law_model", "_law_way", "_law_number"] ["_law_box_here", "_law_model"] (defScope s__law_value) := ⟨rfl, rfl, rfl, by decide +kernel, rfl, by decide +kernel, by decide +kernel⟩
theorem sc__law_here : FnScope ["_law_model", "_law_way"] ["_law_model"] (defScope s__law_here) := ⟨rfl, rfl, rfl, by decide +kernel, rfl, by decide +kernel, by decide +kernel⟩
theorem sc__law_deed : FnScope ["_law_box_here", "_law_house_here", "_law_model", "_law_act", "_law_frame", "_law_size", "_law_way", "_law_k", "_law_value_here"] ["_law_box_here", "_law_house_here", "_law_model"] (defScope s__law_deed) := ⟨rfl, rfl, rfl, by decide +kernel, rfl, by decide +kernel, by decide +kernel⟩
theorem sc__law_picture : FnScope ["_law_model", "_law_frames", "_law_frame", "_law_rooms", "_law_way"] ["_law_model"] (defScope s__law_picture) := ⟨rfl, rfl, rfl, by decide +kernel, rfl, by decide +kernel, by decide +kernel⟩
theorem sc__law_copy : FnScope ["_law_model", "_law_found", "_law_word", "_law_way", "_law_cells"] ["_law_model"] (defScope s__law_copy) := ⟨rfl, rfl, rfl, by decide +kernel, rfl, by decide +kernel, by decide +kernel⟩
theorem sc__law_by : FnScope ["_law_house_here", "_law_way", "_law_found", "e"] ["_law_house_here", "_law_way"] (defScope s__law_by) := ⟨rfl, rfl, rfl, by decide +kernel, rfl, by decide +kernel, by decide +kernel⟩
theorem sc__law_caught : FnScope ["_law_house_here", "_law_rooms", "_law_way", "_law_found", "e", "_law_room"] ["_law_house_here", "_law_rooms", "_law_way"] (defScope s__law_caught) := ⟨rfl, rfl, rfl, by decide +kernel, rfl, by decide +kernel, by decide +kernel⟩
theorem sc__law_apart : FnScope ["_law_house_here", "_law_model", "_law_others", "_law_rooms", "_law_way", "_law_other"] ["_law_house_here", "_law_model", "_law_others"] (defScope s__law_apart) := ⟨rfl, rfl, rfl, by decide +kernel, rfl, by decide +kernel, by decide +kernel⟩
theorem sc__law_no_cell : FnScope ["_law_house_here", "_law_way", "_law_k", "_law_found", "e"] ["_law_house_here", "_law_way", "_law_k"] (defScope s__law_no_cell) := ⟨rfl, rfl, rfl, by decide +kernel, rfl, by decide +kernel, by decide +kernel⟩
theorem sc__law_rooms_right : FnScope ["_law_house_here", "_law_model", "_law_k", "_law_way", "_law_cells"] ["_law_house_here", "_law_model"] (defScope s__law_rooms_right) := ⟨rfl, rfl, rfl, by decide +kernel, rfl, by decide +kernel, by decide +kernel⟩
theorem sc__law_right : FnScope ["_law_house_here", "_law_model", "_law_used_here", "_law_due", "_law_found", "_law_k", "_law_way", "_law_frame"] ["_law_house_here", "_law_model"] (defScope s__law_right) := ⟨rfl, rfl, rfl, by decide +kernel, rfl, by decide +kernel, by decide +kernel⟩
theorem sc_law : FnScope ["_law_script", "_law_limit", "_law_houses", "_law_models", "_law_k", "_law_box_here", "_law_at", "_law_other", "_law_twins", "_law_turn", "_law_asked", "_law_one_here"] ["_law_script"] (defScope s_law) := ⟨rfl, rfl, rfl, by decide +kernel, rfl, by decide +kernel, by decide +kernel⟩
theorem sc_NoNumber___init__ : FnScope ["self", "found"] ["self", "found"] (defScope s_NoNumber___init__) := ⟨rfl, rfl, rfl, by decide +kernel, rfl, by decide +kernel, by decide +kernel⟩
theorem sc_NoValue___init__ : FnScope ["self", "found"] ["self", "found"] (defScope s_NoValue___init__) := ⟨rfl, rfl, rfl, by decide +kernel, rfl, by decide +kernel, by decide +kernel⟩
theorem sc_NoFrame___init__ : FnScope ["self", "found"] ["self", "found"] (defScope s_NoFrame___init__) := ⟨rfl, rfl, rfl, by decide +kernel, rfl, by decide +kernel, by decide +kernel⟩
theorem sc_Gone___init__ : FnScope ["self", "found", "by"] ["self", "found", "by"] (defScope s_Gone___init__) := ⟨rfl, rfl, rfl, by decide +kernel, rfl, by decide +kernel, by decide +kernel⟩
theorem sc_TooMany___init__ : FnScope ["self", "many"] ["self", "many"] (defScope s_TooMany___init__) := ⟨rfl, rfl, rfl, by decide +kernel, rfl, by decide +kernel, by decide +kernel⟩
theorem sc_Full___init__ : FnScope ["self", "need", "spare"] ["self", "need", "spare"] (defScope s_Full___init__) := ⟨rfl, rfl, rfl, by decide +kernel, rfl, by decide +kernel, by decide +kernel⟩
theorem sc_NoWay___init__ : FnScope ["self", "found"] ["self", "found"] (defScope s_NoWay___init__) := ⟨rfl, rfl, rfl, by decide +kernel, rfl, by decide +kernel, by decide +kernel⟩
theorem sc_NoCell___init__ : FnScope ["self", "found"] ["self", "found"] (defScope s_NoCell___init__) := ⟨rfl, rfl, rfl, by decide +kernel, rfl, by decide +kernel, by decide +kernel⟩
theorem sc_Frames___init__ : FnScope ["self"] ["self"] (defScope s_Frames___init__) := ⟨rfl, rfl, rfl, by decide +kernel, rfl, by decide +kernel, by decide +kernel⟩
theorem sc_House___init__ : FnScope ["self", "limit"] ["self", "limit"] (defScope s_House___init__) := ⟨rfl, rfl, rfl, by decide +kernel, rfl, by decide +kernel, by decide +kernel⟩
theorem sc_House_make : FnScope ["self", "frame", "size", "way"] ["self", "frame", "size"] (defScope s_House_make) := ⟨rfl, rfl, rfl, by decide +kernel, rfl, by decide +kernel, by decide +kernel⟩
theorem sc_House_clear : FnScope ["self", "frame", "way"] ["self", "frame"] (defScope s_House_clear) := ⟨rfl, rfl, rfl, by decide +kernel, rfl, by decide +kernel, by decide +kernel⟩
theorem sc_House_need_room : FnScope ["self", "way"] ["self", "way"] (defScope s_House_need_room) := ⟨rfl, rfl, rfl, by decide +kernel, rfl, by decide +kernel, by decide +kernel⟩
theorem sc_House_need_cell : FnScope ["self", "way", "k"] ["self", "way", "k"] (defScope s_House_need_cell) := ⟨rfl, rfl, rfl, by decide +kernel, rfl, by decide +kernel, by decide +kernel⟩
theorem sc_House_is_value : FnScope ["self", "thing"] ["self", "thing"] (defScope s_House_is_value) := ⟨rfl, rfl, rfl, by decide +kernel, rfl, by decide +kernel, by decide +kernel⟩
theorem sc_House_get : FnScope ["self", "way", "k"] ["self", "way", "k"] (defScope s_House_get) := ⟨rfl, rfl, rfl, by decide +kernel, rfl, by decide +kernel, by decide +kernel⟩
theorem sc_House_put : FnScope ["self", "way", "k", "value"] ["self", "way", "k", "value"] (defScope s_House_put) := ⟨rfl, rfl, rfl, by decide +kernel, rfl, by decide +kernel, by decide +kernel⟩
theorem sc_House_size : FnScope ["self", "way"] ["self", "way"] (defScope s_House_size) := ⟨rfl, rfl, rfl, by decide +kernel, rfl, by decide +kernel, by decide +kernel⟩
theorem sc_House_cells : FnScope ["self", "way"] ["self", "way"] (defScope s_House_cells) := ⟨rfl, rfl, rfl, by decide +kernel, rfl, by decide +kernel, by decide +kernel⟩
theorem sc_House_rooms : FnScope ["self", "frame"] ["self", "frame"] (defScope s_House_rooms) := ⟨rfl, rfl, rfl, by decide +kernel, rfl, by decide +kernel, by decide +kernel⟩
theorem sc_House_used : FnScope ["self", "cells"] ["self"] (defScope s_House_used) := ⟨rfl, rfl, rfl, by decide +kernel, rfl, by decide +kernel, by decide +kernel⟩
theorem sc_House_left : FnScope ["self"] ["self"] (defScope s_House_left) := ⟨rfl, rfl, rfl, by decide +kernel, rfl, by decide +kernel, by decide +kernel⟩
theorem sc_House_limit : FnScope ["self"] ["self"] (defScope s_House_limit) := ⟨rfl, rfl, rfl, by decide +kernel, rfl, by decide +kernel, by decide +kernel⟩
theorem sc_House_greatest : FnScope ["self"] ["self"] (defScope s_House_greatest) := ⟨rfl, rfl, rfl, by decide +kernel, rfl, by decide +kernel, by decide +kernel⟩
theorem sc_House_picture : FnScope ["self", "frames", "frame", "rooms", "way"] ["self"] (defScope s_House_picture) := ⟨rfl, rfl, rfl, by decide +kernel, rfl, by decide +kernel, by decide +kernel⟩
theorem sc_House_twin : FnScope ["self", "other", "way", "cells"] ["self"] (defScope s_House_twin) := ⟨rfl, rfl, rfl, by decide +kernel, rfl, by decide +kernel, by decide +kernel⟩
theorem sc_House_need_begun : FnScope ["self", "frame"] ["self", "frame"] (defScope s_House_need_begun) := ⟨rfl, rfl, rfl, by decide +kernel, rfl, by decide +kernel, by decide +kernel⟩
theorem sc_House_need_standing : FnScope ["self", "frame"] ["self", "frame"] (defScope s_House_need_standing) := ⟨rfl, rfl, rfl, by decide +kernel, rfl, by decide +kernel, by decide +kernel⟩
theorem sc_House_need_more : FnScope ["self"] ["self"] (defScope s_House_need_more) := ⟨rfl, rfl, rfl, by decide +kernel, rfl, by decide +kernel, by decide +kernel⟩
theorem sc_House_begin : FnScope ["self", "frame"] ["self", "frame"] (defScope s_House_begin) := ⟨rfl, rfl, rfl, by decide +kernel, rfl, by decide +kernel, by decide +kernel⟩
theorem sc_House_finish : FnScope ["self", "frame", "ended", "one"] ["self", "frame"] (defScope s_House_finish) := ⟨rfl, rfl, rfl, by decide +kernel, rfl, by decide +kernel, by decide +kernel⟩
theorem sc_House_stands : FnScope ["self", "thing"] ["self", "thing"] (defScope s_House_stands) := ⟨rfl, rfl, rfl, by decide +kernel, rfl, by decide +kernel, by decide +kernel⟩
theorem sc_House_inside : FnScope ["self", "frame"] ["self", "frame"] (defScope s_House_inside) := ⟨rfl, rfl, rfl, by decide +kernel, rfl, by decide +kernel, by decide +kernel⟩
theorem sc_House_row : FnScope ["self", "frame", "found", "at"] ["self", "frame"] (defScope s_House_row) := ⟨rfl, rfl, rfl, by decide +kernel, rfl, by decide +kernel, by decide +kernel⟩
theorem sc_House_within : FnScope ["self", "frame", "one"] ["self", "frame"] (defScope s_House_within) := ⟨rfl, rfl, rfl, by decide +kernel, rfl, by decide +kernel, by decide +kernel⟩
theorem sc_House_ended_by : FnScope ["self", "frame"] ["self", "frame"] (defScope s_House_ended_by) := ⟨rfl, rfl, rfl, by decide +kernel, rfl, by decide +kernel, by decide +kernel⟩
theorem sc_House_standing : FnScope ["self", "one"] ["self"] (defScope s_House_standing) := ⟨rfl, rfl, rfl, by decide +kernel, rfl, by decide +kernel, by decide +kernel⟩
theorem sc_House_begun : FnScope ["self"] ["self"] (defScope s_House_begun) := ⟨rfl, rfl, rfl, by decide +kernel, rfl, by decide +kernel, by decide +kernel⟩
structure Tx (K : PySem.W.Frag) (mg : Str → Option Value) : Prop where
  g_is_number : mg "is_number" = some (.ref (He.ga K "is_number"))
  g_is_whole : mg "is_whole" = some (.ref (He.ga K "is_whole"))
  g_is_pair : mg "is_pair" = some (.ref (He.ga K "is_pair"))
  g__law_cell : mg "_law_cell" = some (.ref (He.ga K "_law_cell"))
  g__law_box : mg "_law_box" = some (.ref (He.ga K "_law_box"))
  g__law_take : mg "_law_take" = some (.ref (He.ga K "_law_take"))
  g__law_house : mg "_law_house" = some (.ref (He.ga K "_law_house"))
  g__law_standing : mg "_law_standing" = some (.ref (He.ga K "_law_standing"))
  g__law_row : mg "_law_row" = some (.ref (He.ga K "_law_row"))
  g__law_begin : mg "_law_begin" = some (.ref (He.ga K "_law_begin"))
  g__law_finish : mg "_law_finish" = some (.ref (He.ga K "_law_finish"))
  g__law_given : mg "_law_given" = some (.ref (He.ga K "_law_given"))
  g__law_used : mg "_law_used" = some (.ref (He.ga K "_law_used"))
  g__law_make : mg "_law_make" = some (.ref (He.ga K "_law_make"))
  g__law_one : mg "_law_one" = some (.ref (He.ga K "_law_one"))
  g__law_value : mg "_law_value" = some (.ref (He.ga K "_law_value"))
  g__law_here : mg "_law_here" = some (.ref (He.ga K "_law_here"))
  g__law_deed : mg "_law_deed" = some (.ref (He.ga K "_law_deed"))
  g__law_picture : mg "_law_picture" = some (.ref (He.ga K "_law_picture"))
  g__law_copy : mg "_law_copy" = some (.ref (He.ga K "_law_copy"))
  g__law_by : mg "_law_by" = some (.ref (He.ga K "_law_by"))
  g__law_caught : mg "_law_caught" = some (.ref (He.ga K "_law_caught"))
  g__law_apart : mg "_law_apart" = some (.ref (He.ga K "_law_apart"))
  g__law_no_cell : mg "_law_no_cell" = some (.ref (He.ga K "_law_no_cell"))
  g__law_rooms_right : mg "_law_rooms_right" = some (.ref (He.ga K "_law_rooms_right"))
  g__law_right : mg "_law_right" = some (.ref (He.ga K "_law_right"))
  g_law : mg "law" = some (.ref (He.ga K "law"))
  g_House : mg "House" = some (.ref (He.ga K "House"))
  g_Frames : mg "Frames" = some (.ref (He.ga K "Frames"))
  g_NoNumber : mg "NoNumber" = some (.ref (He.ga K "NoNumber"))
  g_NoFrame : mg "NoFrame" = some (.ref (He.ga K "NoFrame"))
  g_TooMany : mg "TooMany" = some (.ref (He.ga K "TooMany"))
  g_NoWay : mg "NoWay" = some (.ref (He.ga K "NoWay"))
  g_Gone : mg "Gone" = some (.ref (He.ga K "Gone"))
  g_Full : mg "Full" = some (.ref (He.ga K "Full"))
  g_NoCell : mg "NoCell" = some (.ref (He.ga K "NoCell"))
  g_NoValue : mg "NoValue" = some (.ref (He.ga K "NoValue"))
  g_RoomError : mg "RoomError" = some (.ref (He.ga K "RoomError"))
  z_len : mg "len" = none
  z_range : mg "range" = none
  z_repr : mg "repr" = none
  z_isinstance : mg "isinstance" = none
  z_int : mg "int" = none
  z_bool : mg "bool" = none
  z_tuple : mg "tuple" = none
  z_max : mg "max" = none
  z_min : mg "min" = none
  z_reversed : mg "reversed" = none
  z_zip : mg "zip" = none
  z_all : mg "all" = none
  z_sum : mg "sum" = none
  z_list : mg "list" = none
  z_dict : mg "dict" = none
  i_MOST : ∃ t, mg "MOST" = some (.int 100 t)
  i_MOST_CELLS : ∃ t, mg "MOST_CELLS" = some (.int 1000 t)
  i_MOST_SIZE : ∃ t, mg "MOST_SIZE" = some (.int 6 t)
  c_House : Cls K (He.ga K "House")
  n_House_holders : NoAttr K (He.ga K "House") "holders"
  n_House_takers : NoAttr K (He.ga K "House") "takers"
  n_House_most : NoAttr K (He.ga K "House") "most"
  n_House_top : NoAttr K (He.ga K "House") "top"
  n_House_given : NoAttr K (He.ga K "House") "given"
  n_House_filled : NoAttr K (He.ga K "House") "filled"
  n_House_sizes : NoAttr K (He.ga K "House") "sizes"
  n_House_held : NoAttr K (He.ga K "House") "held"
  m_House_make : Meth K (He.ga K "House") "make" (He.ma K (He.ga K "House") "make")
  m_House_clear : Meth K (He.ga K "House") "clear" (He.ma K (He.ga K "House") "clear")
  m_House_need_room : Meth K (He.ga K "House") "need_room" (He.ma K (He.ga K "House") "need_room")
  m_House_need_cell : Meth K (He.ga K "House") "need_cell" (He.ma K (He.ga K "House") "need_cell")
  m_House_is_value : Meth K (He.ga K "House") "is_value" (He.ma K (He.ga K "House") "is_value")
  m_House_get : Meth K (He.ga K "House") "get" (He.ma K (He.ga K "House") "get")
  m_House_put : Meth K (He.ga K "House") "put" (He.ma K (He.ga K "House") "put")
  m_House_size : Meth K (He.ga K "House") "size" (He.ma K (He.ga K "House") "size")
  m_House_cells : Meth K (He.ga K "House") "cells" (He.ma K (He.ga K "House") "cells")
  m_House_rooms : Meth K (He.ga K "House") "rooms" (He.ma K (He.ga K "House") "rooms")
  m_House_used : Meth K (He.ga K "House") "used" (He.ma K (He.ga K "House") "used")
  m_House_left : Meth K (He.ga K "House") "left" (He.ma K (He.ga K "House") "left")
  m_House_limit : Meth K (He.ga K "House") "limit" (He.ma K (He.ga K "House") "limit")
  m_House_greatest : Meth K (He.ga K "House") "greatest" (He.ma K (He.ga K "House") "greatest")
  m_House_picture : Meth K (He.ga K "House") "picture" (He.ma K (He.ga K "House") "picture")
  m_House_twin : Meth K (He.ga K "House") "twin" (He.ma K (He.ga K "House") "twin")
  m_House_need_begun : Meth K (He.ga K "House") "need_begun" (He.ma K (He.ga K "House") "need_begun")
  m_House_need_standing : Meth K (He.ga K "House") "need_standing" (He.ma K (He.ga K "House") "need_standing")
  m_House_need_more : Meth K (He.ga K "House") "need_more" (He.ma K (He.ga K "House") "need_more")
  m_House_begin : Meth K (He.ga K "House") "begin" (He.ma K (He.ga K "House") "begin")
  m_House_finish : Meth K (He.ga K "House") "finish" (He.ma K (He.ga K "House") "finish")
  m_House_stands : Meth K (He.ga K "House") "stands" (He.ma K (He.ga K "House") "stands")
  m_House_inside : Meth K (He.ga K "House") "inside" (He.ma K (He.ga K "House") "inside")
  m_House_row : Meth K (He.ga K "House") "row" (He.ma K (He.ga K "House") "row")
  m_House_within : Meth K (He.ga K "House") "within" (He.ma K (He.ga K "House") "within")
  m_House_ended_by : Meth K (He.ga K "House") "ended_by" (He.ma K (He.ga K "House") "ended_by")
  m_House_standing : Meth K (He.ga K "House") "standing" (He.ma K (He.ga K "House") "standing")
  m_House_begun : Meth K (He.ga K "House") "begun" (He.ma K (He.ga K "House") "begun")
  k_House : Mk K (He.ga K "House") (He.ma K (He.ga K "House") "__init__")
  x_NoNumber : XC K (He.ga K "NoNumber") ["found"] ∧ XI K (He.ga K "NoNumber") (He.ma K (He.ga K "NoNumber") "__init__")
  x_NoFrame : XC K (He.ga K "NoFrame") ["found"] ∧ XI K (He.ga K "NoFrame") (He.ma K (He.ga K "NoFrame") "__init__")
  x_TooMany : XC K (He.ga K "TooMany") ["many"] ∧ XI K (He.ga K "TooMany") (He.ma K (He.ga K "TooMany") "__init__")
  x_NoWay : XC K (He.ga K "NoWay") ["found"] ∧ XI K (He.ga K "NoWay") (He.ma K (He.ga K "NoWay") "__init__")
  x_Gone : XC K (He.ga K "Gone") ["found", "by"] ∧ XI K (He.ga K "Gone") (He.ma K (He.ga K "Gone") "__init__")
  x_Full : XC K (He.ga K "Full") ["need", "spare"] ∧ XI K (He.ga K "Full") (He.ma K (He.ga K "Full") "__init__")
  x_NoCell : XC K (He.ga K "NoCell") ["found"] ∧ XI K (He.ga K "NoCell") (He.ma K (He.ga K "NoCell") "__init__")
  x_NoValue : XC K (He.ga K "NoValue") ["found"] ∧ XI K (He.ga K "NoValue") (He.ma K (He.ga K "NoValue") "__init__")
  u_Frames___init__ : UnbK K (He.ga K "Frames") "__init__" (He.ma K (He.ga K "Frames") "__init__")
  e_Gone_Gone : PySem.W.exmOne K (.ref (He.ga K "Gone")) (.ref (He.ga K "Gone")) = some true
  e_NoWay_NoWay : PySem.W.exmOne K (.ref (He.ga K "NoWay")) (.ref (He.ga K "NoWay")) = some true
  e_NoValue_NoValue : PySem.W.exmOne K (.ref (He.ga K "NoValue")) (.ref (He.ga K "NoValue")) = some true
  e_NoCell_NoCell : PySem.W.exmOne K (.ref (He.ga K "NoCell")) (.ref (He.ga K "NoCell")) = some true
  y_House_House : PySem.W.kitOne K (.ref (He.ga K "House")) (.ref (He.ga K "House")) = some true
  y_House_Frames : PySem.W.kitOne K (.ref (He.ga K "House")) (.ref (He.ga K "Frames")) = some true
  t_House : TyK K (He.ga K "House")
  F_is_number : ∃ fd, Fun K "is_number" "is_number" s_is_number (He.ga K "is_number") fd
  F_is_whole : ∃ fd, Fun K "is_whole" "is_whole" s_is_whole (He.ga K "is_whole") fd
  F_is_pair : ∃ fd, Fun K "is_pair" "is_pair" s_is_pair (He.ga K "is_pair") fd
  F__law_cell : ∃ fd, Fun K "_law_cell" "_law_cell" s__law_cell (He.ga K "_law_cell") fd
  F__law_box : ∃ fd, Fun K "_law_box" "_law_box" s__law_box (He.ga K "_law_box") fd
  F__law_take : ∃ fd, Fun K "_law_take" "_law_take" s__law_take (He.ga K "_law_take") fd
  F__law_house : ∃ fd, Fun K "_law_house" "_law_house" s__law_house (He.ga K "_law_house") fd
  F__law_standing : ∃ fd, Fun K "_law_standing" "_law_standing" s__law_standing (He.ga K "_law_standing") fd
  F__law_row : ∃ fd, Fun K "_law_row" "_law_row" s__law_row (He.ga K "_law_row") fd
  F__law_begin : ∃ fd, Fun K "_law_begin" "_law_begin" s__law_begin (He.ga K "_law_begin") fd
  F__law_finish : ∃ fd, Fun K "_law_finish" "_law_finish" s__law_finish (He.ga K "_law_finish") fd
  F__law_given : ∃ fd, Fun K "_law_given" "_law_given" s__law_given (He.ga K "_law_given") fd
  F__law_used : ∃ fd, Fun K "_law_used" "_law_used" s__law_used (He.ga K "_law_used") fd
  F__law_make : ∃ fd, Fun K "_law_make" "_law_make" s__law_make (He.ga K "_law_make") fd
  F__law_one : ∃ fd, Fun K "_law_one" "_law_one" s__law_one (He.ga K "_law_one") fd
  F__law_value : ∃ fd, Fun K "_law_value" "_law_value" s__law_value (He.ga K "_law_value") fd
  F__law_here : ∃ fd, Fun K "_law_here" "_law_here" s__law_here (He.ga K "_law_here") fd
  F__law_deed : ∃ fd, Fun K "_law_deed" "_law_deed" s__law_deed (He.ga K "_law_deed") fd
  F__law_picture : ∃ fd, Fun K "_law_picture" "_law_picture" s__law_picture (He.ga K "_law_picture") fd
  F__law_copy : ∃ fd, Fun K "_law_copy" "_law_copy" s__law_copy (He.ga K "_law_copy") fd
  F__law_by : ∃ fd, Fun K "_law_by" "_law_by" s__law_by (He.ga K "_law_by") fd
  F__law_caught : ∃ fd, Fun K "_law_caught" "_law_caught" s__law_caught (He.ga K "_law_caught") fd
  F__law_apart : ∃ fd, Fun K "_law_apart" "_law_apart" s__law_apart (He.ga K "_law_apart") fd
  F__law_no_cell : ∃ fd, Fun K "_law_no_cell" "_law_no_cell" s__law_no_cell (He.ga K "_law_no_cell") fd
  F__law_rooms_right : ∃ fd, Fun K "_law_rooms_right" "_law_rooms_right" s__law_rooms_right (He.ga K "_law_rooms_right") fd
  F__law_right : ∃ fd, Fun K "_law_right" "_law_right" s__law_right (He.ga K "_law_right") fd
  F_law : ∃ fd, Fun K "law" "law" s_law (He.ga K "law") fd
  F_NoNumber___init__ : ∃ fd, Fun K "__init__" "NoNumber.__init__" s_NoNumber___init__ (He.ma K (He.ga K "NoNumber") "__init__") fd
  F_NoValue___init__ : ∃ fd, Fun K "__init__" "NoValue.__init__" s_NoValue___init__ (He.ma K (He.ga K "NoValue") "__init__") fd
  F_NoFrame___init__ : ∃ fd, Fun K "__init__" "NoFrame.__init__" s_NoFrame___init__ (He.ma K (He.ga K "NoFrame") "__init__") fd
  F_Gone___init__ : ∃ fd, Fun K "__init__" "Gone.__init__" s_Gone___init__ (He.ma K (He.ga K "Gone") "__init__") fd
  F_TooMany___init__ : ∃ fd, Fun K "__init__" "TooMany.__init__" s_TooMany___init__ (He.ma K (He.ga K "TooMany") "__init__") fd
  F_Full___init__ : ∃ fd, Fun K "__init__" "Full.__init__" s_Full___init__ (He.ma K (He.ga K "Full") "__init__") fd
  F_NoWay___init__ : ∃ fd, Fun K "__init__" "NoWay.__init__" s_NoWay___init__ (He.ma K (He.ga K "NoWay") "__init__") fd
  F_NoCell___init__ : ∃ fd, Fun K "__init__" "NoCell.__init__" s_NoCell___init__ (He.ma K (He.ga K "NoCell") "__init__") fd
  F_Frames___init__ : ∃ fd, Fun K "__init__" "Frames.__init__" s_Frames___init__ (He.ma K (He.ga K "Frames") "__init__") fd
  F_House___init__ : ∃ fd, Fun K "__init__" "House.__init__" s_House___init__ (He.ma K (He.ga K "House") "__init__") fd
  F_House_make : ∃ fd, Fun K "make" "House.make" s_House_make (He.ma K (He.ga K "House") "make") fd
  F_House_clear : ∃ fd, Fun K "clear" "House.clear" s_House_clear (He.ma K (He.ga K "House") "clear") fd
  F_House_need_room : ∃ fd, Fun K "need_room" "House.need_room" s_House_need_room (He.ma K (He.ga K "House") "need_room") fd
  F_House_need_cell : ∃ fd, Fun K "need_cell" "House.need_cell" s_House_need_cell (He.ma K (He.ga K "House") "need_cell") fd
  F_House_is_value : ∃ fd, Fun K "is_value" "House.is_value" s_House_is_value (He.ma K (He.ga K "House") "is_value") fd
  F_House_get : ∃ fd, Fun K "get" "House.get" s_House_get (He.ma K (He.ga K "House") "get") fd
  F_House_put : ∃ fd, Fun K "put" "House.put" s_House_put (He.ma K (He.ga K "House") "put") fd
  F_House_size : ∃ fd, Fun K "size" "House.size" s_House_size (He.ma K (He.ga K "House") "size") fd
  F_House_cells : ∃ fd, Fun K "cells" "House.cells" s_House_cells (He.ma K (He.ga K "House") "cells") fd
  F_House_rooms : ∃ fd, Fun K "rooms" "House.rooms" s_House_rooms (He.ma K (He.ga K "House") "rooms") fd
  F_House_used : ∃ fd, Fun K "used" "House.used" s_House_used (He.ma K (He.ga K "House") "used") fd
  F_House_left : ∃ fd, Fun K "left" "House.left" s_House_left (He.ma K (He.ga K "House") "left") fd
  F_House_limit : ∃ fd, Fun K "limit" "House.limit" s_House_limit (He.ma K (He.ga K "House") "limit") fd
  F_House_greatest : ∃ fd, Fun K "greatest" "House.greatest" s_House_greatest (He.ma K (He.ga K "House") "greatest") fd
  F_House_picture : ∃ fd, Fun K "picture" "House.picture" s_House_picture (He.ma K (He.ga K "House") "picture") fd
  F_House_twin : ∃ fd, Fun K "twin" "House.twin" s_House_twin (He.ma K (He.ga K "House") "twin") fd
  F_House_need_begun : ∃ fd, Fun K "need_begun" "Frames.need_begun" s_House_need_begun (He.ma K (He.ga K "House") "need_begun") fd
  F_House_need_standing : ∃ fd, Fun K "need_standing" "Frames.need_standing" s_House_need_standing (He.ma K (He.ga K "House") "need_standing") fd
  F_House_need_more : ∃ fd, Fun K "need_more" "Frames.need_more" s_House_need_more (He.ma K (He.ga K "House") "need_more") fd
  F_House_begin : ∃ fd, Fun K "begin" "Frames.begin" s_House_begin (He.ma K (He.ga K "House") "begin") fd
  F_House_finish : ∃ fd, Fun K "finish" "Frames.finish" s_House_finish (He.ma K (He.ga K "House") "finish") fd
  F_House_stands : ∃ fd, Fun K "stands" "Frames.stands" s_House_stands (He.ma K (He.ga K "House") "stands") fd
  F_House_inside : ∃ fd, Fun K "inside" "Frames.inside" s_House_inside (He.ma K (He.ga K "House") "inside") fd
  F_House_row : ∃ fd, Fun K "row" "Frames.row" s_House_row (He.ma K (He.ga K "House") "row") fd
  F_House_within : ∃ fd, Fun K "within" "Frames.within" s_House_within (He.ma K (He.ga K "House") "within") fd
  F_House_ended_by : ∃ fd, Fun K "ended_by" "Frames.ended_by" s_House_ended_by (He.ma K (He.ga K "House") "ended_by") fd
  F_House_standing : ∃ fd, Fun K "standing" "Frames.standing" s_House_standing (He.ma K (He.ga K "House") "standing") fd
  F_House_begun : ∃ fd, Fun K "begun" "Frames.begun" s_House_begun (He.ma K (He.ga K "House") "begun") fd
def d_is_number : He.DefD := ⟨("is_number", none), "is_number", "is_number", defArgs s_is_number, defBody s_is_number, defScope s_is_number, [], []⟩
def d_is_whole : He.DefD := ⟨("is_whole", none), "is_whole", "is_whole", defArgs s_is_whole, defBody s_is_whole, defScope s_is_whole, [], []⟩
def d_is_pair : He.DefD := ⟨("is_pair", none), "is_pair", "is_pair", defArgs s_is_pair, defBody s_is_pair, defScope s_is_pair, [], []⟩
def d__law_cell : He.DefD := ⟨("_law_cell", none), "_law_cell", "_law_cell", defArgs s__law_cell, defBody s__law_cell, defScope s__law_cell, [], []⟩
def d__law_box : He.DefD := ⟨("_law_box", none), "_law_box", "_law_box", defArgs s__law_box, defBody s__law_box, defScope s__law_box, [], []⟩
def d__law_take : He.DefD := ⟨("_law_take", none), "_law_take", "_law_take", defArgs s__law_take, defBody s__law_take, defScope s__law_take, [], []⟩
def d__law_house : He.DefD := ⟨("_law_house", none), "_law_house", "_law_house", defArgs s__law_house, defBody s__law_house, defScope s__law_house, [], []⟩
def d__law_standing : He.DefD := ⟨("_law_standing", none), "_law_standing", "_law_standing", defArgs s__law_standing, defBody s__law_standing, defScope s__law_standing, [], []⟩
def d__law_row : He.DefD := ⟨("_law_row", none), "_law_row", "_law_row", defArgs s__law_row, defBody s__law_row, defScope s__law_row, [], []⟩
def d__law_begin : He.DefD := ⟨("_law_begin", none), "_law_begin", "_law_begin", defArgs s__law_begin, defBody s__law_begin, defScope s__law_begin, [], []⟩
def d__law_finish : He.DefD := ⟨("_law_finish", none), "_law_finish", "_law_finish", defArgs s__law_finish, defBody s__law_finish, defScope s__law_finish, [], []⟩
def d__law_given : He.DefD := ⟨("_law_given", none), "_law_given", "_law_given", defArgs s__law_given, defBody s__law_given, defScope s__law_given, [], []⟩
def d__law_used : He.DefD := ⟨("_law_used", none), "_law_used", "_law_used", defArgs s__law_used, defBody s__law_used, defScope s__law_used, [], []⟩
def d__law_make : He.DefD := ⟨("_law_make", none), "_law_make", "_law_make", defArgs s__law_make, defBody s__law_make, defScope s__law_make, [], []⟩
def d__law_one : He.DefD := ⟨("_law_one", none), "_law_one", "_law_one", defArgs s__law_one, defBody s__law_one, defScope s__law_one, [], []⟩
def d__law_value : He.DefD := ⟨("_law_value", none), "_law_value", "_law_value", defArgs s__law_value, defBody s__law_value, defScope s__law_value, [], []⟩
def d__law_here : He.DefD := ⟨("_law_here", none), "_law_here", "_law_here", defArgs s__law_here, defBody s__law_here, defScope s__law_here, [], []⟩
def d__law_deed : He.DefD := ⟨("_law_deed", none), "_law_deed", "_law_deed", defArgs s__law_deed, defBody s__law_deed, defScope s__law_deed, [], []⟩
def d__law_picture : He.DefD := ⟨("_law_picture", none), "_law_picture", "_law_picture", defArgs s__law_picture, defBody s__law_picture, defScope s__law_picture, [], []⟩
def d__law_copy : He.DefD := ⟨("_law_copy", none), "_law_copy", "_law_copy", defArgs s__law_copy, defBody s__law_copy, defScope s__law_copy, [], []⟩
def d__law_by : He.DefD := ⟨("_law_by", none), "_law_by", "_law_by", defArgs s__law_by, defBody s__law_by, defScope s__law_by, [], []⟩
def d__law_caught : He.DefD := ⟨("_law_caught", none), "_law_caught", "_law_caught", defArgs s__law_caught, defBody s__law_caught, defScope s__law_caught, [], []⟩
def d__law_apart : He.DefD := ⟨("_law_apart", none), "_law_apart", "_law_apart", defArgs s__law_apart, defBody s__law_apart, defScope s__law_apart, [], []⟩
def d__law_no_cell : He.DefD := ⟨("_law_no_cell", none), "_law_no_cell", "_law_no_cell", defArgs s__law_no_cell, defBody s__law_no_cell, defScope s__law_no_cell, [], []⟩
def d__law_rooms_right : He.DefD := ⟨("_law_rooms_right", none), "_law_rooms_right", "_law_rooms_right", defArgs s__law_rooms_right, defBody s__law_rooms_right, defScope s__law_rooms_right, [], []⟩
def d__law_right : He.DefD := ⟨("_law_right", none), "_law_right", "_law_right", defArgs s__law_right, defBody s__law_right, defScope s__law_right, [], []⟩
def d_law : He.DefD := ⟨("law", none), "law", "law", defArgs s_law, defBody s_law, defScope s_law, [], []⟩
def d_NoNumber___init__ : He.DefD := ⟨("NoNumber", some "__init__"), "__init__", "NoNumber.__init__", defArgs s_NoNumber___init__, defBody s_NoNumber___init__, defScope s_NoNumber___init__, [], []⟩
def d_NoValue___init__ : He.DefD := ⟨("NoValue", some "__init__"), "__init__", "NoValue.__init__", defArgs s_NoValue___init__, defBody s_NoValue___init__, defScope s_NoValue___init__, [], []⟩
def d_NoFrame___init__ : He.DefD := ⟨("NoFrame", some "__init__"), "__init__", "NoFrame.__init__", defArgs s_NoFrame___init__, defBody s_NoFrame___init__, defScope s_NoFrame___init__, [], []⟩
def d_Gone___init__ : He.DefD := ⟨("Gone", some "__init__"), "__init__", "Gone.__init__", defArgs s_Gone___init__, defBody s_Gone___init__, defScope s_Gone___init__, [], []⟩
def d_TooMany___init__ : He.DefD := ⟨("TooMany", some "__init__"), "__init__", "TooMany.__init__", defArgs s_TooMany___init__, defBody s_TooMany___init__, defScope s_TooMany___init__, [], []⟩
def d_Full___init__ : He.DefD := ⟨("Full", some "__init__"), "__init__", "Full.__init__", defArgs s_Full___init__, defBody s_Full___init__, defScope s_Full___init__, [], []⟩
def d_NoWay___init__ : He.DefD := ⟨("NoWay", some "__init__"), "__init__", "NoWay.__init__", defArgs s_NoWay___init__, defBody s_NoWay___init__, defScope s_NoWay___init__, [], []⟩
def d_NoCell___init__ : He.DefD := ⟨("NoCell", some "__init__"), "__init__", "NoCell.__init__", defArgs s_NoCell___init__, defBody s_NoCell___init__, defScope s_NoCell___init__, [], []⟩
def d_Frames___init__ : He.DefD := ⟨("Frames", some "__init__"), "__init__", "Frames.__init__", defArgs s_Frames___init__, defBody s_Frames___init__, defScope s_Frames___init__, [], []⟩
def d_House___init__ : He.DefD := ⟨("House", some "__init__"), "__init__", "House.__init__", defArgs s_House___init__, defBody s_House___init__, defScope s_House___init__, [], []⟩
def d_House_make : He.DefD := ⟨("House", some "make"), "make", "House.make", defArgs s_House_make, defBody s_House_make, defScope s_House_make, [], []⟩
def d_House_clear : He.DefD := ⟨("House", some "clear"), "clear", "House.clear", defArgs s_House_clear, defBody s_House_clear, defScope s_House_clear, [], []⟩
def d_House_need_room : He.DefD := ⟨("House", some "need_room"), "need_room", "House.need_room", defArgs s_House_need_room, defBody s_House_need_room, defScope s_House_need_room, [], []⟩
def d_House_need_cell : He.DefD := ⟨("House", some "need_cell"), "need_cell", "House.need_cell", defArgs s_House_need_cell, defBody s_House_need_cell, defScope s_House_need_cell, [], []⟩
def d_House_is_value : He.DefD := ⟨("House", some "is_value"), "is_value", "House.is_value", defArgs s_House_is_value, defBody s_House_is_value, defScope s_House_is_value, [], []⟩
def d_House_get : He.DefD := ⟨("House", some "get"), "get", "House.get", defArgs s_House_get, defBody s_House_get, defScope s_House_get, [], []⟩
def d_House_put : He.DefD := ⟨("House", some "put"), "put", "House.put", defArgs s_House_put, defBody s_House_put, defScope s_House_put, [], []⟩
def d_House_size : He.DefD := ⟨("House", some "size"), "size", "House.size", defArgs s_House_size, defBody s_House_size, defScope s_House_size, [], []⟩
def d_House_cells : He.DefD := ⟨("House", some "cells"), "cells", "House.cells", defArgs s_House_cells, defBody s_House_cells, defScope s_House_cells, [], []⟩
def d_House_rooms : He.DefD := ⟨("House", some "rooms"), "rooms", "House.rooms", defArgs s_House_rooms, defBody s_House_rooms, defScope s_House_rooms, [], []⟩
def d_House_used : He.DefD := ⟨("House", some "used"), "used", "House.used", defArgs s_House_used, defBody s_House_used, defScope s_House_used, [], []⟩
def d_House_left : He.DefD := ⟨("House", some "left"), "left", "House.left", defArgs s_House_left, defBody s_House_left, defScope s_House_left, [], []⟩
def d_House_limit : He.DefD := ⟨("House", some "limit"), "limit", "House.limit", defArgs s_House_limit, defBody s_House_limit, defScope s_House_limit, [], []⟩
def d_House_greatest : He.DefD := ⟨("House", some "greatest"), "greatest", "House.greatest", defArgs s_House_greatest, defBody s_House_greatest, defScope s_House_greatest, [], []⟩
def d_House_picture : He.DefD := ⟨("House", some "picture"), "picture", "House.picture", defArgs s_House_picture, defBody s_House_picture, defScope s_House_picture, [], []⟩
def d_House_twin : He.DefD := ⟨("House", some "twin"), "twin", "House.twin", defArgs s_House_twin, defBody s_House_twin, defScope s_House_twin, [], []⟩
def d_House_need_begun : He.DefD := ⟨("House", some "need_begun"), "need_begun", "Frames.need_begun", defArgs s_House_need_begun, defBody s_House_need_begun, defScope s_House_need_begun, [], []⟩
def d_House_need_standing : He.DefD := ⟨("House", some "need_standing"), "need_standing", "Frames.need_standing", defArgs s_House_need_standing, defBody s_House_need_standing, defScope s_House_need_standing, [], []⟩
def d_House_need_more : He.DefD := ⟨("House", some "need_more"), "need_more", "Frames.need_more", defArgs s_House_need_more, defBody s_House_need_more, defScope s_House_need_more, [], []⟩
def d_House_begin : He.DefD := ⟨("House", some "begin"), "begin", "Frames.begin", defArgs s_House_begin, defBody s_House_begin, defScope s_House_begin, [], []⟩
def d_House_finish : He.DefD := ⟨("House", some "finish"), "finish", "Frames.finish", defArgs s_House_finish, defBody s_House_finish, defScope s_House_finish, [], []⟩
def d_House_stands : He.DefD := ⟨("House", some "stands"), "stands", "Frames.stands", defArgs s_House_stands, defBody s_House_stands, defScope s_House_stands, [], []⟩
def d_House_inside : He.DefD := ⟨("House", some "inside"), "inside", "Frames.inside", defArgs s_House_inside, defBody s_House_inside, defScope s_House_inside, [], []⟩
def d_House_row : He.DefD := ⟨("House", some "row"), "row", "Frames.row", defArgs s_House_row, defBody s_House_row, defScope s_House_row, [], []⟩
def d_House_within : He.DefD := ⟨("House", some "within"), "within", "Frames.within", defArgs s_House_within, defBody s_House_within, defScope s_House_within, [], []⟩
def d_House_ended_by : He.DefD := ⟨("House", some "ended_by"), "ended_by", "Frames.ended_by", defArgs s_House_ended_by, defBody s_House_ended_by, defScope s_House_ended_by, [], []⟩
def d_House_standing : He.DefD := ⟨("House", some "standing"), "standing", "Frames.standing", defArgs s_House_standing, defBody s_House_standing, defScope s_House_standing, [], []⟩
def d_House_begun : He.DefD := ⟨("House", some "begun"), "begun", "Frames.begun", defArgs s_House_begun, defBody s_House_begun, defScope s_House_begun, [], []⟩
def fnL : List He.DefD := [d_is_number, d_is_whole, d_is_pair, d__law_cell, d__law_box, d__law_take, d__law_house, d__law_standing, d__law_row, d__law_begin, d__law_finish, d__law_given, d__law_used, d__law_make, d__law_one, d__law_value, d__law_here, d__law_deed, d__law_picture, d__law_copy, d__law_by, d__law_caught, d__law_apart, d__law_no_cell, d__law_rooms_right, d__law_right, d_law, d_NoNumber___init__, d_NoValue___init__, d_NoFrame___init__, d_Gone___init__, d_TooMany___init__, d_Full___init__, d_NoWay___init__, d_NoCell___init__, d_Frames___init__, d_House___init__, d_House_make, d_House_clear, d_House_need_room, d_House_need_cell, d_House_is_value, d_House_get, d_House_put, d_House_size, d_House_cells, d_House_rooms, d_House_used, d_House_left, d_House_limit, d_House_greatest, d_House_picture, d_House_twin, d_House_need_begun, d_House_need_standing, d_House_need_more, d_House_begin, d_House_finish, d_House_stands, d_House_inside, d_House_row, d_House_within, d_House_ended_by, d_House_standing, d_House_begun]
def faL : List He.Fa := [.glo "is_number", .glo "is_whole", .glo "is_pair", .glo "_law_cell", .glo "_law_box", .glo "_law_take", .glo "_law_house", .glo "_law_standing", .glo "_law_row", .glo "_law_begin", .glo "_law_finish", .glo "_law_given", .glo "_law_used", .glo "_law_make", .glo "_law_one", .glo "_law_value", .glo "_law_here", .glo "_law_deed", .glo "_law_picture", .glo "_law_copy", .glo "_law_by", .glo "_law_caught", .glo "_law_apart", .glo "_law_no_cell", .glo "_law_rooms_right", .glo "_law_right", .glo "law", .glo "House", .glo "Frames", .glo "NoNumber", .glo "NoFrame", .glo "TooMany", .glo "NoWay", .glo "Gone", .glo "Full", .glo "NoCell", .glo "NoValue", .glo "RoomError", .free "len", .free "range", .free "repr", .free "isinstance", .free "int", .free "bool", .free "tuple", .free "max", .free "min", .free "reversed", .free "zip", .free "all", .free "sum", .free "list", .free "dict", .int "MOST" 100, .int "MOST_CELLS" 1000, .int "MOST_SIZE" 6, .cls "House", .noat "House" "holders", .noat "House" "takers", .noat "House" "most", .noat "House" "top", .noat "House" "given", .noat "House" "filled", .noat "House" "sizes", .noat "House" "held", .meth "House" "make", .meth "House" "clear", .meth "House" "need_room", .meth "House" "need_cell", .meth "House" "is_value", .meth "House" "get", .meth "House" "put", .meth "House" "size", .meth "House" "cells", .meth "House" "rooms", .meth "House" "used", .meth "House" "left", .meth "House" "limit", .meth "House" "greatest", .meth "House" "picture", .meth "House" "twin", .meth "House" "need_begun", .meth "House" "need_standing", .meth "House" "need_more", .meth "House" "begin", .meth "House" "finish", .meth "House" "stands", .meth "House" "inside", .meth "House" "row", .meth "House" "within", .meth "House" "ended_by", .meth "House" "standing", .meth "House" "begun", .mkr "House"]
def exL : List Xa := [.oex "NoNumber" ["found"], .oex "NoFrame" ["found"], .oex "TooMany" ["many"], .oex "NoWay" ["found"], .oex "Gone" ["found", "by"], .oex "Full" ["need", "spare"], .oex "NoCell" ["found"], .oex "NoValue" ["found"], .prop fun K => unbB K (He.ga K "Frames") "__init__" (He.ma K (He.ga K "Frames") "__init__"), .exm "Gone" "Gone" true, .exm "NoWay" "NoWay" true, .exm "NoValue" "NoValue" true, .exm "NoCell" "NoCell" true, .isi "House" "House" true, .isi "House" "Frames" true, .prop fun K => tyB K (He.ga K "House")]
def exF (K : PySem.W.Frag) : Bool := exL.all fun x => x.ok K
theorem tx_of {K : PySem.W.Frag} {h : Heap} {mg : Str → Option Value} (X : K.In h) (G : h.Ns mainGlobals mg) (c : He.SaysD faL fnL K) (hx : (exL.all fun x => x.ok K) = true) : Tx K mg := ⟨
(He.glo_ok X G (c.fact 0 (f := .glo "is_number") rfl)),
  (He.glo_ok X G (c.fact 1 (f := .glo "is_whole") rfl)),
  (He.glo_ok X G (c.fact 2 (f := .glo "is_pair") rfl)),
  (He.glo_ok X G (c.fact 3 (f := .glo "_law_cell") rfl)),
  (He.glo_ok X G (c.fact 4 (f := .glo "_law_box") rfl)),
  (He.glo_ok X G (c.fact 5 (f := .glo "_law_take") rfl)),
  (He.glo_ok X G (c.fact 6 (f := .glo "_law_house") rfl)),
  (He.glo_ok X G (c.fact 7 (f := .glo "_law_standing") rfl)),
  (He.glo_ok X G (c.fact 8 (f := .glo "_law_row") rfl)),
  (He.glo_ok X G (c.fact 9 (f := .glo "_law_begin") rfl)),
  (He.glo_ok X G (c.fact 10 (f := .glo "_law_finish") rfl)),
  (He.glo_ok X G (c.fact 11 (f := .glo "_law_given") rfl)),
  (He.glo_ok X G (c.fact 12 (f := .glo "_law_used") rfl)),
  (He.glo_ok X G (c.fact 13 (f := .glo "_law_make") rfl)),
  (He.glo_ok X G (c.fact 14 (f := .glo "_law_one") rfl)),
  (He.glo_ok X G (c.fact 15 (f := .glo "_law_value") rfl)),
  (He.glo_ok X G (c.fact 16 (f := .glo "_law_here") rfl)),
  (He.glo_ok X G (c.fact 17 (f := .glo "_law_deed") rfl)),
  (He.glo_ok X G (c.fact 18 (f := .glo "_law_picture") rfl)),
  (He.glo_ok X G (c.fact 19 (f := .glo "_law_copy") rfl)),
  (He.glo_ok X G (c.fact 20 (f := .glo "_law_by") rfl)),
  (He.glo_ok X G (c.fact 21 (f := .glo "_law_caught") rfl)),
  (He.glo_ok X G (c.fact 22 (f := .glo "_law_apart") rfl)),
  (He.glo_ok X G (c.fact 23 (f := .glo "_law_no_cell") rfl)),
  (He.glo_ok X G (c.fact 24 (f := .glo "_law_rooms_right") rfl)),
  (He.glo_ok X G (c.fact 25 (f := .glo "_law_right") rfl)),
  (He.glo_ok X G (c.fact 26 (f := .glo "law") rfl)),
  (He.glo_ok X G (c.fact 27 (f := .glo "House") rfl)),
  (He.glo_ok X G (c.fact 28 (f := .glo "Frames") rfl)),
  (He.glo_ok X G (c.fact 29 (f := .glo "NoNumber") rfl)),
  (He.glo_ok X G (c.fact 30 (f := .glo "NoFrame") rfl)),
  (He.glo_ok X G (c.fact 31 (f := .glo "TooMany") rfl)),
  (He.glo_ok X G (c.fact 32 (f := .glo "NoWay") rfl)),
  (He.glo_ok X G (c.fact 33 (f := .glo "Gone") rfl)),
  (He.glo_ok X G (c.fact 34 (f := .glo "Full") rfl)),
  (He.glo_ok X G (c.fact 35 (f := .glo "NoCell") rfl)),
  (He.glo_ok X G (c.fact 36 (f := .glo "NoValue") rfl)),
  (He.glo_ok X G (c.fact 37 (f := .glo "RoomError") rfl)),
  (He.free_ok X G (c.fact 38 (f := .free "len") rfl)),
  (He.free_ok X G (c.fact 39 (f := .free "range") rfl)),
  (He.free_ok X G (c.fact 40 (f := .free "repr") rfl)),
  (He.free_ok X G (c.fact 41 (f := .free "isinstance") rfl)),
  (He.free_ok X G (c.fact 42 (f := .free "int") rfl)),
  (He.free_ok X G (c.fact 43 (f := .free "bool") rfl)),
  (He.free_ok X G (c.fact 44 (f := .free "tuple") rfl)),
  (He.free_ok X G (c.fact 45 (f := .free "max") rfl)),
  (He.free_ok X G (c.fact 46 (f := .free "min") rfl)),
  (He.free_ok X G (c.fact 47 (f := .free "reversed") rfl)),
  (He.free_ok X G (c.fact 48 (f := .free "zip") rfl)),
  (He.free_ok X G (c.fact 49 (f := .free "all") rfl)),
  (He.free_ok X G (c.fact 50 (f := .free "sum") rfl)),
  (He.free_ok X G (c.fact 51 (f := .free "list") rfl)),
  (He.free_ok X G (c.fact 52 (f := .free "dict") rfl)),
  (He.int_ok X G (c.fact 53 (f := .int "MOST" 100) rfl)),
  (He.int_ok X G (c.fact 54 (f := .int "MOST_CELLS" 1000) rfl)),
  (He.int_ok X G (c.fact 55 (f := .int "MOST_SIZE" 6) rfl)),
  (He.cls_ok (c.fact 56 (f := .cls "House") rfl)),
  (He.noat_ok (c.fact 57 (f := .noat "House" "holders") rfl)),
  (He.noat_ok (c.fact 58 (f := .noat "House" "takers") rfl)),
  (He.noat_ok (c.fact 59 (f := .noat "House" "most") rfl)),
  (He.noat_ok (c.fact 60 (f := .noat "House" "top") rfl)),
  (He.noat_ok (c.fact 61 (f := .noat "House" "given") rfl)),
  (He.noat_ok (c.fact 62 (f := .noat "House" "filled") rfl)),
  (He.noat_ok (c.fact 63 (f := .noat "House" "sizes") rfl)),
  (He.noat_ok (c.fact 64 (f := .noat "House" "held") rfl)),
  (He.meth_ok (c.fact 65 (f := .meth "House" "make") rfl)),
  (He.meth_ok (c.fact 66 (f := .meth "House" "clear") rfl)),
  (He.meth_ok (c.fact 67 (f := .meth "House" "need_room") rfl)),
  (He.meth_ok (c.fact 68 (f := .meth "House" "need_cell") rfl)),
  (He.meth_ok (c.fact 69 (f := .meth "House" "is_value") rfl)),
  (He.meth_ok (c.fact 70 (f := .meth "House" "get") rfl)),
  (He.meth_ok (c.fact 71 (f := .meth "House" "put") rfl)),
  (He.meth_ok (c.fact 72 (f := .meth "House" "size") rfl)),
  (He.meth_ok (c.fact 73 (f := .meth "House" "cells") rfl)),
  (He.meth_ok (c.fact 74 (f := .meth "House" "rooms") rfl)),
  (He.meth_ok (c.fact 75 (f := .meth "House" "used") rfl)),
  (He.meth_ok (c.fact 76 (f := .meth "House" "left") rfl)),
  (He.meth_ok (c.fact 77 (f := .meth "House" "limit") rfl)),
  (He.meth_ok (c.fact 78 (f := .meth "House" "greatest") rfl)),
  (He.meth_ok (c.fact 79 (f := .meth "House" "picture") rfl)),
  (He.meth_ok (c.fact 80 (f := .meth "House" "twin") rfl)),
  (He.meth_ok (c.fact 81 (f := .meth "House" "need_begun") rfl)),
  (He.meth_ok (c.fact 82 (f := .meth "House" "need_standing") rfl)),
  (He.meth_ok (c.fact 83 (f := .meth "House" "need_more") rfl)),
  (He.meth_ok (c.fact 84 (f := .meth "House" "begin") rfl)),
  (He.meth_ok (c.fact 85 (f := .meth "House" "finish") rfl)),
  (He.meth_ok (c.fact 86 (f := .meth "House" "stands") rfl)),
  (He.meth_ok (c.fact 87 (f := .meth "House" "inside") rfl)),
  (He.meth_ok (c.fact 88 (f := .meth "House" "row") rfl)),
  (He.meth_ok (c.fact 89 (f := .meth "House" "within") rfl)),
  (He.meth_ok (c.fact 90 (f := .meth "House" "ended_by") rfl)),
  (He.meth_ok (c.fact 91 (f := .meth "House" "standing") rfl)),
  (He.meth_ok (c.fact 92 (f := .meth "House" "begun") rfl)),
  (He.mkr_ok (c.fact 93 (f := .mkr "House") rfl)),
  (oex_ok (c := "NoNumber") (fs := ["found"]) (xa_at hx 0 rfl)),
  (oex_ok (c := "NoFrame") (fs := ["found"]) (xa_at hx 1 rfl)),
  (oex_ok (c := "TooMany") (fs := ["many"]) (xa_at hx 2 rfl)),
  (oex_ok (c := "NoWay") (fs := ["found"]) (xa_at hx 3 rfl)),
  (oex_ok (c := "Gone") (fs := ["found", "by"]) (xa_at hx 4 rfl)),
  (oex_ok (c := "Full") (fs := ["need", "spare"]) (xa_at hx 5 rfl)),
  (oex_ok (c := "NoCell") (fs := ["found"]) (xa_at hx 6 rfl)),
  (oex_ok (c := "NoValue") (fs := ["found"]) (xa_at hx 7 rfl)),
  (unbB_ok (xa_at hx 8 rfl)),
  (exm_ok (c := "Gone") (d := "Gone") (xa_at hx 9 rfl)),
  (exm_ok (c := "NoWay") (d := "NoWay") (xa_at hx 10 rfl)),
  (exm_ok (c := "NoValue") (d := "NoValue") (xa_at hx 11 rfl)),
  (exm_ok (c := "NoCell") (d := "NoCell") (xa_at hx 12 rfl)),
  (isi_ok (c := "House") (d := "House") (xa_at hx 13 rfl)),
  (isi_ok (c := "House") (d := "Frames") (xa_at hx 14 rfl)),
  (tyB_ok (xa_at hx 15 rfl)),
  (let ⟨fd, h⟩ := c.def_ 0 (d := d_is_number) rfl; ⟨fd, FG.toFun (st := s_is_number) h⟩),
  (let ⟨fd, h⟩ := c.def_ 1 (d := d_is_whole) rfl; ⟨fd, FG.toFun (st := s_is_whole) h⟩),
  (let ⟨fd, h⟩ := c.def_ 2 (d := d_is_pair) rfl; ⟨fd, FG.toFun (st := s_is_pair) h⟩),
  (let ⟨fd, h⟩ := c.def_ 3 (d := d__law_cell) rfl; ⟨fd, FG.toFun (st := s__law_cell) h⟩),
  (let ⟨fd, h⟩ := c.def_ 4 (d := d__law_box) rfl; ⟨fd, FG.toFun (st := s__law_box) h⟩),
  (let ⟨fd, h⟩ := c.def_ 5 (d := d__law_take) rfl; ⟨fd, FG.toFun (st := s__law_take) h⟩),
  (let ⟨fd, h⟩ := c.def_ 6 (d := d__law_house) rfl; ⟨fd, FG.toFun (st := s__law_house) h⟩),
  (let ⟨fd, h⟩ := c.def_ 7 (d := d__law_standing) rfl; ⟨fd, FG.toFun (st := s__law_standing) h⟩),
  (let ⟨fd, h⟩ := c.def_ 8 (d := d__law_row) rfl; ⟨fd, FG.toFun (st := s__law_row) h⟩),
  (let ⟨fd, h⟩ := c.def_ 9 (d := d__law_begin) rfl; ⟨fd, FG.toFun (st := s__law_begin) h⟩),
  (let ⟨fd, h⟩ := c.def_ 10 (d := d__law_finish) rfl; ⟨fd, FG.toFun (st := s__law_finish) h⟩),
  (let ⟨fd, h⟩ := c.def_ 11 (d := d__law_given) rfl; ⟨fd, FG.toFun (st := s__law_given) h⟩),
  (let ⟨fd, h⟩ := c.def_ 12 (d := d__law_used) rfl; ⟨fd, FG.toFun (st := s__law_used) h⟩),
  (let ⟨fd, h⟩ := c.def_ 13 (d := d__law_make) rfl; ⟨fd, FG.toFun (st := s__law_make) h⟩),
  (let ⟨fd, h⟩ := c.def_ 14 (d := d__law_one) rfl; ⟨fd, FG.toFun (st := s__law_one) h⟩),
  (let ⟨fd, h⟩ := c.def_ 15 (d := d__law_value) rfl; ⟨fd, FG.toFun (st := s__law_value) h⟩),
  (let ⟨fd, h⟩ := c.def_ 16 (d := d__law_here) rfl; ⟨fd, FG.toFun (st := s__law_here) h⟩),
  (let ⟨fd, h⟩ := c.def_ 17 (d := d__law_deed) rfl; ⟨fd, FG.toFun (st := s__law_deed) h⟩),
  (let ⟨fd, h⟩ := c.def_ 18 (d := d__law_picture) rfl; ⟨fd, FG.toFun (st := s__law_picture) h⟩),
  (let ⟨fd, h⟩ := c.def_ 19 (d := d__law_copy) rfl; ⟨fd, FG.toFun (st := s__law_copy) h⟩),
  (let ⟨fd, h⟩ := c.def_ 20 (d := d__law_by) rfl; ⟨fd, FG.toFun (st := s__law_by) h⟩),
  (let ⟨fd, h⟩ := c.def_ 21 (d := d__law_caught) rfl; ⟨fd, FG.toFun (st := s__law_caught) h⟩),
  (let ⟨fd, h⟩ := c.def_ 22 (d := d__law_apart) rfl; ⟨fd, FG.toFun (st := s__law_apart) h⟩),
  (let ⟨fd, h⟩ := c.def_ 23 (d := d__law_no_cell) rfl; ⟨fd, FG.toFun (st := s__law_no_cell) h⟩),
  (let ⟨fd, h⟩ := c.def_ 24 (d := d__law_rooms_right) rfl; ⟨fd, FG.toFun (st := s__law_rooms_right) h⟩),
  (let ⟨fd, h⟩ := c.def_ 25 (d := d__law_right) rfl; ⟨fd, FG.toFun (st := s__law_right) h⟩),
  (let ⟨fd, h⟩ := c.def_ 26 (d := d_law) rfl; ⟨fd, FG.toFun (st := s_law) h⟩),
  (let ⟨fd, h⟩ := c.def_ 27 (d := d_NoNumber___init__) rfl; ⟨fd, FG.toFun (st := s_NoNumber___init__) h⟩),
  (let ⟨fd, h⟩ := c.def_ 28 (d := d_NoValue___init__) rfl; ⟨fd, FG.toFun (st := s_NoValue___init__) h⟩),
  (let ⟨fd, h⟩ := c.def_ 29 (d := d_NoFrame___init__) rfl; ⟨fd, FG.toFun (st := s_NoFrame___init__) h⟩),
  (let ⟨fd, h⟩ := c.def_ 30 (d := d_Gone___init__) rfl; ⟨fd, FG.toFun (st := s_Gone___init__) h⟩),
  (let ⟨fd, h⟩ := c.def_ 31 (d := d_TooMany___init__) rfl; ⟨fd, FG.toFun (st := s_TooMany___init__) h⟩),
  (let ⟨fd, h⟩ := c.def_ 32 (d := d_Full___init__) rfl; ⟨fd, FG.toFun (st := s_Full___init__) h⟩),
  (let ⟨fd, h⟩ := c.def_ 33 (d := d_NoWay___init__) rfl; ⟨fd, FG.toFun (st := s_NoWay___init__) h⟩),
  (let ⟨fd, h⟩ := c.def_ 34 (d := d_NoCell___init__) rfl; ⟨fd, FG.toFun (st := s_NoCell___init__) h⟩),
  (let ⟨fd, h⟩ := c.def_ 35 (d := d_Frames___init__) rfl; ⟨fd, FG.toFun (st := s_Frames___init__) h⟩),
  (let ⟨fd, h⟩ := c.def_ 36 (d := d_House___init__) rfl; ⟨fd, FG.toFun (st := s_House___init__) h⟩),
  (let ⟨fd, h⟩ := c.def_ 37 (d := d_House_make) rfl; ⟨fd, FG.toFun (st := s_House_make) h⟩),
  (let ⟨fd, h⟩ := c.def_ 38 (d := d_House_clear) rfl; ⟨fd, FG.toFun (st := s_House_clear) h⟩),
  (let ⟨fd, h⟩ := c.def_ 39 (d := d_House_need_room) rfl; ⟨fd, FG.toFun (st := s_House_need_room) h⟩),
  (let ⟨fd, h⟩ := c.def_ 40 (d := d_House_need_cell) rfl; ⟨fd, FG.toFun (st := s_House_need_cell) h⟩),
  (let ⟨fd, h⟩ := c.def_ 41 (d := d_House_is_value) rfl; ⟨fd, FG.toFun (st := s_House_is_value) h⟩),
  (let ⟨fd, h⟩ := c.def_ 42 (d := d_House_get) rfl; ⟨fd, FG.toFun (st := s_House_get) h⟩),
  (let ⟨fd, h⟩ := c.def_ 43 (d := d_House_put) rfl; ⟨fd, FG.toFun (st := s_House_put) h⟩),
  (let ⟨fd, h⟩ := c.def_ 44 (d := d_House_size) rfl; ⟨fd, FG.toFun (st := s_House_size) h⟩),
  (let ⟨fd, h⟩ := c.def_ 45 (d := d_House_cells) rfl; ⟨fd, FG.toFun (st := s_House_cells) h⟩),
  (let ⟨fd, h⟩ := c.def_ 46 (d := d_House_rooms) rfl; ⟨fd, FG.toFun (st := s_House_rooms) h⟩),
  (let ⟨fd, h⟩ := c.def_ 47 (d := d_House_used) rfl; ⟨fd, FG.toFun (st := s_House_used) h⟩),
  (let ⟨fd, h⟩ := c.def_ 48 (d := d_House_left) rfl; ⟨fd, FG.toFun (st := s_House_left) h⟩),
  (let ⟨fd, h⟩ := c.def_ 49 (d := d_House_limit) rfl; ⟨fd, FG.toFun (st := s_House_limit) h⟩),
  (let ⟨fd, h⟩ := c.def_ 50 (d := d_House_greatest) rfl; ⟨fd, FG.toFun (st := s_House_greatest) h⟩),
  (let ⟨fd, h⟩ := c.def_ 51 (d := d_House_picture) rfl; ⟨fd, FG.toFun (st := s_House_picture) h⟩),
  (let ⟨fd, h⟩ := c.def_ 52 (d := d_House_twin) rfl; ⟨fd, FG.toFun (st := s_House_twin) h⟩),
  (let ⟨fd, h⟩ := c.def_ 53 (d := d_House_need_begun) rfl; ⟨fd, FG.toFun (st := s_House_need_begun) h⟩),
  (let ⟨fd, h⟩ := c.def_ 54 (d := d_House_need_standing) rfl; ⟨fd, FG.toFun (st := s_House_need_standing) h⟩),
  (let ⟨fd, h⟩ := c.def_ 55 (d := d_House_need_more) rfl; ⟨fd, FG.toFun (st := s_House_need_more) h⟩),
  (let ⟨fd, h⟩ := c.def_ 56 (d := d_House_begin) rfl; ⟨fd, FG.toFun (st := s_House_begin) h⟩),
  (let ⟨fd, h⟩ := c.def_ 57 (d := d_House_finish) rfl; ⟨fd, FG.toFun (st := s_House_finish) h⟩),
  (let ⟨fd, h⟩ := c.def_ 58 (d := d_House_stands) rfl; ⟨fd, FG.toFun (st := s_House_stands) h⟩),
  (let ⟨fd, h⟩ := c.def_ 59 (d := d_House_inside) rfl; ⟨fd, FG.toFun (st := s_House_inside) h⟩),
  (let ⟨fd, h⟩ := c.def_ 60 (d := d_House_row) rfl; ⟨fd, FG.toFun (st := s_House_row) h⟩),
  (let ⟨fd, h⟩ := c.def_ 61 (d := d_House_within) rfl; ⟨fd, FG.toFun (st := s_House_within) h⟩),
  (let ⟨fd, h⟩ := c.def_ 62 (d := d_House_ended_by) rfl; ⟨fd, FG.toFun (st := s_House_ended_by) h⟩),
  (let ⟨fd, h⟩ := c.def_ 63 (d := d_House_standing) rfl; ⟨fd, FG.toFun (st := s_House_standing) h⟩),
  (let ⟨fd, h⟩ := c.def_ 64 (d := d_House_begun) rfl; ⟨fd, FG.toFun (st := s_House_begun) h⟩)⟩
end Lw
namespace Lw
open PySem PySem.Spec L2 FG
open PyProof.Rows hiding St
section
variable {P : Program} {w : World} {K : PySem.W.Frag} {mg : Str → Option Value} {base : Heap}
theorem rai_NoNumber (T : Tx K mg) : Rai P w K mg base "NoNumber" (He.ga K "NoNumber") ["found"] := by
  refine Rai.of T.x_NoNumber T.g_NoNumber T.F_NoNumber___init__ (fun F => F.binds (ps := ["self", "found"]) fun _ _ _ _ _ _ us hl => match us, hl with | [_, _], _ => rfl) fun F => FnG.of F sc_NoNumber___init__ (fun vs H Q E h => ?_) (fun cdv A outer s H vs Q E hr h => ?_) (ps := ["self", "found"])
  · obtain ⟨a, C, ys, rfl, hl, _⟩ := h; simpa using hl
  · obtain ⟨a, C, ys, rfl, hl, xc, ea, q⟩ := h
    match ys, hl with
    | [y], _ =>
      refine ⟨_, pss_one (ps_ost (pv 0) (pv 1)), ?_⟩
      refine ⟨_, rfl, _, rfl, a, C, rfl, xc.o, xc.no _ (by decide +kernel), .inl ⟨ea, fun d hd nd => ?_⟩⟩
      exact q d _ hd nd upd_same ((upd_ne nd).trans upd_same) fun b h1 h2 => (upd_ne h1).trans (upd_ne h2)
theorem rai_NoFrame (T : Tx K mg) : Rai P w K mg base "NoFrame" (He.ga K "NoFrame") ["found"] := by
  refine Rai.of T.x_NoFrame T.g_NoFrame T.F_NoFrame___init__ (fun F => F.binds (ps := ["self", "found"]) fun _ _ _ _ _ _ us hl => match us, hl with | [_, _], _ => rfl) fun F => FnG.of F sc_NoFrame___init__ (fun vs H Q E h => ?_) (fun cdv A outer s H vs Q E hr h => ?_) (ps := ["self", "found"])
  · obtain ⟨a, C, ys, rfl, hl, _⟩ := h; simpa using hl
  · obtain ⟨a, C, ys, rfl, hl, xc, ea, q⟩ := h
    match ys, hl with
    | [y], _ =>
      refine ⟨_, pss_one (ps_ost (pv 0) (pv 1)), ?_⟩
      refine ⟨_, rfl, _, rfl, a, C, rfl, xc.o, xc.no _ (by decide +kernel), .inl ⟨ea, fun d hd nd => ?_⟩⟩
      exact q d _ hd nd upd_same ((upd_ne nd).trans upd_same) fun b h1 h2 => (upd_ne h1).trans (upd_ne h2)
theorem rai_TooMany (T : Tx K mg) : Rai P w K mg base "TooMany" (He.ga K "TooMany") ["many"] := by
  refine Rai.of T.x_TooMany T.g_TooMany T.F_TooMany___init__ (fun F => F.binds (ps := ["self", "many"]) fun _ _ _ _ _ _ us hl => match us, hl with | [_, _], _ => rfl) fun F => FnG.of F sc_TooMany___init__ (fun vs H Q E h => ?_) (fun cdv A outer s H vs Q E hr h => ?_) (ps := ["self", "many"])
  · obtain ⟨a, C, ys, rfl, hl, _⟩ := h; simpa using hl
  · obtain ⟨a, C, ys, rfl, hl, xc, ea, q⟩ := h
    match ys, hl with
    | [y], _ =>
      refine ⟨_, pss_one (ps_ost (pv 0) (pv 1)), ?_⟩
      refine ⟨_, rfl, _, rfl, a, C, rfl, xc.o, xc.no _ (by decide +kernel), .inl ⟨ea, fun d hd nd => ?_⟩⟩
      exact q d _ hd nd upd_same ((upd_ne nd).trans upd_same) fun b h1 h2 => (upd_ne h1).trans (upd_ne h2)
theorem rai_NoWay (T : Tx K mg) : Rai P w K mg base "NoWay" (He.ga K "NoWay") ["found"] := by
  refine Rai.of T.x_NoWay T.g_NoWay T.F_NoWay___init__ (fun F => F.binds (ps := ["self", "found"]) fun _ _ _ _ _ _ us hl => match us, hl with | [_, _], _ => rfl) fun F => FnG.of F sc_NoWay___init__ (fun vs H Q E h => ?_) (fun cdv A outer s H vs Q E hr h => ?_) (ps := ["self", "found"])
  · obtain ⟨a, C, ys, rfl, hl, _⟩ := h; simpa using hl
  · obtain ⟨a, C, ys, rfl, hl, xc, ea, q⟩ := h
    match ys, hl with
    | [y], _ =>
      refine ⟨_, pss_one (ps_ost (pv 0) (pv 1)), ?_⟩
      refine ⟨_, rfl, _, rfl, a, C, rfl, xc.o, xc.no _ (by decide +kernel), .inl ⟨ea, fun d hd nd => ?_⟩⟩
      exact q d _ hd nd upd_same ((upd_ne nd).trans upd_same) fun b h1 h2 => (upd_ne h1).trans (upd_ne h2)
theorem rai_Gone (T : Tx K mg) : Rai P w K mg base "Gone" (He.ga K "Gone") ["found", "by"] := by
  refine Rai.of T.x_Gone T.g_Gone T.F_Gone___init__ (fun F => F.binds (ps := ["self", "found", "by"]) fun _ _ _ _ _ _ us hl => match us, hl with | [_, _, _], _ => rfl) fun F => FnG.of F sc_Gone___init__ (fun vs H Q E h => ?_) (fun cdv A outer s H vs Q E hr h => ?_) (ps := ["self", "found", "by"])
  · obtain ⟨a, C, ys, rfl, hl, _⟩ := h; simpa using hl
  · obtain ⟨a, C, ys, rfl, hl, xc, ea, q⟩ := h
    match ys, hl with
    | [y, z], _ =>
      refine ⟨_, pss_cons (ps_ost (pv 0) (pv 1)) (pss_one (ps_ost (pv 0) (pv 2))), ?_⟩
      refine ⟨_, rfl, _, rfl, a, C, rfl, xc.o, xc.no _ (by decide +kernel), .inl ⟨ea, fun d hd nd => ?_⟩⟩
      refine ⟨_, rfl, _, rfl, a, C, rfl, xc.o, xc.no _ (by decide +kernel), .inr ⟨d, _, upd_same, (upd_ne nd).trans upd_same, (by show 1 ≤ 900; decide), ?_⟩⟩
      exact q d _ hd nd ((upd_ne nd.symm).trans upd_same) upd_same fun b h1 h2 => (upd_ne h2).trans ((upd_ne h1).trans (upd_ne h2))
theorem rai_Full (T : Tx K mg) : Rai P w K mg base "Full" (He.ga K "Full") ["need", "spare"] := by
  refine Rai.of T.x_Full T.g_Full T.F_Full___init__ (fun F => F.binds (ps := ["self", "need", "spare"]) fun _ _ _ _ _ _ us hl => match us, hl with | [_, _, _], _ => rfl) fun F => FnG.of F sc_Full___init__ (fun vs H Q E h => ?_) (fun cdv A outer s H vs Q E hr h => ?_) (ps := ["self", "need", "spare"])
  · obtain ⟨a, C, ys, rfl, hl, _⟩ := h; simpa using hl
  · obtain ⟨a, C, ys, rfl, hl, xc, ea, q⟩ := h
    match ys, hl with
    | [y, z], _ =>
      refine ⟨_, pss_cons (ps_ost (pv 0) (pv 1)) (pss_one (ps_ost (pv 0) (pv 2))), ?_⟩
      refine ⟨_, rfl, _, rfl, a, C, rfl, xc.o, xc.no _ (by decide +kernel), .inl ⟨ea, fun d hd nd => ?_⟩⟩
      refine ⟨_, rfl, _, rfl, a, C, rfl, xc.o, xc.no _ (by decide +kernel), .inr ⟨d, _, upd_same, (upd_ne nd).trans upd_same, (by show 1 ≤ 900; decide), ?_⟩⟩
      exact q d _ hd nd ((upd_ne nd.symm).trans upd_same) upd_same fun b h1 h2 => (upd_ne h2).trans ((upd_ne h1).trans (upd_ne h2))
theorem rai_NoCell (T : Tx K mg) : Rai P w K mg base "NoCell" (He.ga K "NoCell") ["found"] := by
  refine Rai.of T.x_NoCell T.g_NoCell T.F_NoCell___init__ (fun F => F.binds (ps := ["self", "found"]) fun _ _ _ _ _ _ us hl => match us, hl with | [_, _], _ => rfl) fun F => FnG.of F sc_NoCell___init__ (fun vs H Q E h => ?_) (fun cdv A outer s H vs Q E hr h => ?_) (ps := ["self", "found"])
  · obtain ⟨a, C, ys, rfl, hl, _⟩ := h; simpa using hl
  · obtain ⟨a, C, ys, rfl, hl, xc, ea, q⟩ := h
    match ys, hl with
    | [y], _ =>
      refine ⟨_, pss_one (ps_ost (pv 0) (pv 1)), ?_⟩
      refine ⟨_, rfl, _, rfl, a, C, rfl, xc.o, xc.no _ (by decide +kernel), .inl ⟨ea, fun d hd nd => ?_⟩⟩
      exact q d _ hd nd upd_same ((upd_ne nd).trans upd_same) fun b h1 h2 => (upd_ne h1).trans (upd_ne h2)
theorem rai_NoValue (T : Tx K mg) : Rai P w K mg base "NoValue" (He.ga K "NoValue") ["found"] := by
  refine Rai.of T.x_NoValue T.g_NoValue T.F_NoValue___init__ (fun F => F.binds (ps := ["self", "found"]) fun _ _ _ _ _ _ us hl => match us, hl with | [_, _], _ => rfl) fun F => FnG.of F sc_NoValue___init__ (fun vs H Q E h => ?_) (fun cdv A outer s H vs Q E hr h => ?_) (ps := ["self", "found"])
  · obtain ⟨a, C, ys, rfl, hl, _⟩ := h; simpa using hl
  · obtain ⟨a, C, ys, rfl, hl, xc, ea, q⟩ := h
    match ys, hl with
    | [y], _ =>
      refine ⟨_, pss_one (ps_ost (pv 0) (pv 1)), ?_⟩
      refine ⟨_, rfl, _, rfl, a, C, rfl, xc.o, xc.no _ (by decide +kernel), .inl ⟨ea, fun d hd nd => ?_⟩⟩
      exact q d _ hd nd upd_same ((upd_ne nd).trans upd_same) fun b h1 h2 => (upd_ne h1).trans (upd_ne h2)
end
end Lw
namespace Lw
open PySem PySem.Spec L2 FG
open PyProof.Rows hiding St
def names0 : List PySem.Str := ["__name__", "RoomError", "NoNumber", "NoValue", "NoFrame", "Gone", "Ground", "TooMany", "Full", "NoWay", "NoCell", "is_number", "is_whole", "is_pair", "MOST", "Frames", "MOST_CELLS", "MOST_SIZE", "House", "_law_cell", "_law_box", "_law_take", "_law_house", "_law_standing", "_law_row"]
def names1 : List PySem.Str := ["_law_begin", "_law_finish", "_law_given", "_law_used", "_law_make", "_law_one", "_law_value", "_law_here", "_law_deed", "_law_picture", "_law_copy", "_law_by", "_law_caught", "_law_apart", "_law_no_cell", "_law_rooms_right", "_law_right"]
abbrev Rw : PySem.W.OpenRow := PySem.W.OpenLaw.row PySem.Challenge.rw_framerooms_k15_pictures_and_twins
abbrev hk : PySem.W.Hook := hookY 6 faL fnL exF
def ob (s : PySem.W.SharedT) : He.AlD × Bool := obsY 6 faL fnL exF (HandSHeadRun.getT s)
theorem ob_eq (s : PySem.W.SharedT) : ob s = hk.obs s.abs := obsY_eq (HandSHeadRun.getT_eq s)
theorem run (w : World) : HandSHeadRun.RunEq Rw (PySem.W.view Rw.prog [46]) hk ob 9000 (names0 ++ names1) w := by
  intro os
  kernel_rfl

end Lw
namespace Lw
open PySem PySem.Spec L2 FG
open PyProof.Rows hiding St
/-! ### the law's draws: a cell, a box, a take -/
/-- at b a box that has been asked at most n times behind its digits -/
def BoxAt (H : Hp) (b : Addr) (n : Int) : Prop := ∃ x y c : Int, H b = some (.lst [.int x, .int y, .int c]) ∧ 0 ≤ x ∧ 0 ≤ y ∧ y < 2147483629 ∧ 0 ≤ c ∧ c ≤ n
/-- all but b is as it was -/
def But (b : Addr) (H H' : Hp) : Prop := ∀ a, a ≠ b → H' a = H a
def spCell (K : PySem.W.Frag) : Sp := fun vs H Q _ => ∃ (a : Addr) (ns : List Int) (k : Nat), vs = [.ref a, .int k] ∧ SqL K H a (ns.map V.int) ∧ ∀ z : Int, Q (.int z) H
def spBox : Sp := fun vs H Q _ => ∃ z : Int, vs = [.int z] ∧ ∀ b H', H b = none → But b H H' → BoxAt H' b 0 → Q (.ref b) H'
def spTake : Sp := fun vs H Q _ => ∃ (b : Addr) (n m : Int), vs = [.ref b, .int m] ∧ BoxAt H b n ∧ n < 1000000000 ∧ 0 < m ∧ m < 2 ^ 60 ∧
  ∀ H' (d : Int), But b H H' → BoxAt H' b (n + 1) → 0 ≤ d → d < m → Q (.int d) H'
section
variable {P : Program} {w : World} {K : PySem.W.Frag} {mg : Str → Option Value} {base : Heap}
theorem ok_cell (T : Tx K mg) {fd : FuncData} (F : Fun K "_law_cell" "_law_cell" s__law_cell (He.ga K "_law_cell") fd) : FnG P w K mg base 1 (He.ga K "_law_cell") fd ["_law_script", "_law_k"] (spCell K) := by
  refine FnG.of F sc__law_cell (fun vs H Q E h => ?_) (fun cdv A outer s H vs Q E hr h => ?_)
  · obtain ⟨a, ns, k, rfl, _⟩ := h; rfl
  · obtain ⟨a, ns, k, rfl, hS, q⟩ := h
    refine ⟨_, pss_cons (ps_if (pt_cmpR op_lt (pv 1) (pe_callB (klen K) (by rfl) T.z_len PySem.boot_len (pa_cons (pv 0) (pa_nil))) (by first | exact nomark _ | rfl)) (pss_one (ps_ret (pe_ix (kixL K) (pv 0) (pv 1) (fun _ _ => rfl)))) (pss_nil))
      (pss_one (ps_ret (pe_op op_add (pe_op op_mul (pe_int) (pv 1)) (pe_int)))), ?_⟩
    refine ⟨_, rfl, _, rfl, a, _, rfl, .inl hS, _, _, rfl, rfl, _, rfl, ?_⟩
    refine ite2 (fun hlt => ?_) (fun hge => ?_)
    · have hk : k < ns.length := by simpa using hlt
      refine ⟨_, rfl, _, rfl, a, _, _, .int ns[k], rfl, rfl, hS, ?_, q _⟩
      exact atI_nat (by rw [List.getElem?_map, List.getElem?_eq_getElem hk]; rfl)
    · refine ⟨_, rfl, _, _, rfl, rfl, .inl ⟨by decide, by decide⟩, _, _, rfl, rfl, q _⟩
theorem ok_box (T : Tx K mg) {fd : FuncData} (F : Fun K "_law_box" "_law_box" s__law_box (He.ga K "_law_box") fd) : FnG P w K mg base 1 (He.ga K "_law_box") fd ["_law_cell_here"] spBox := by
  refine FnG.of F sc__law_box (fun vs H Q E h => ?_) (fun cdv A outer s H vs Q E hr h => ?_)
  · obtain ⟨z, rfl, _⟩ := h; rfl
  · obtain ⟨z, rfl, q⟩ := h
    refine ⟨_, pss_one (ps_ret (pe_lst (pa_cons (pe_callB (call_max2 rfl) (by rfl) T.z_max (by decide +kernel) (pa_cons (pe_int) (pa_cons (pe_op op_sub (pv 0) (pe_op op_pow (pe_int) (pe_int))) (pa_nil)))) (pa_cons (pe_op op_mod (pv 0) (pe_int)) (pa_cons (pe_int) (pa_nil)))))), ?_⟩
    refine ⟨_, rfl, _, _, rfl, rfl, ⟨by decide, by decide, by decide⟩, _, _, rfl, rfl, _, _, rfl, ?_⟩
    refine ⟨_, rfl, _, _, rfl, rfl, (by show (0 : Int) < 2147483629; decide), (by show 3 ≤ sizeLine; decide), fun b hb => q b _ hb (fun a ha => upd_ne ha) ⟨_, _, _, upd_same, ?_, ?_, ?_, by decide, by decide⟩⟩
    · split <;> omega
    · exact Int.emod_nonneg _ (by decide)
    · exact Int.emod_lt_of_pos _ (by decide)
theorem ok_take (T : Tx K mg) {fd : FuncData} (F : Fun K "_law_take" "_law_take" s__law_take (He.ga K "_law_take") fd) : FnG P w K mg base 1 (He.ga K "_law_take") fd ["_law_box_here", "_law_many"] spTake := by
  refine FnG.of F sc__law_take (fun vs H Q E h => ?_) (fun cdv A outer s H vs Q E hr h => ?_)
  · obtain ⟨b, n, m, rfl, _⟩ := h; rfl
  · obtain ⟨b, n, m, rfl, ⟨x, y, c, hb, hx, hy, hy2, hc, hcn⟩, hn, hm, hm2, q⟩ := h
    refine ⟨_, pss_cons (ps_if (pt_cmpR op_gt (pe_ix (kixL K) (pv 0) (pe_int) (fun _ _ => rfl)) (pe_int) (by first | exact nomark _ | rfl)) (pss_cons (ps_set (i := 2) sc__law_take.nd rfl (by first | exact Or.inl rfl | exact Or.inr rfl) (pe_op op_mod (pe_ix (kixL K) (pv 0) (pe_int) (fun _ _ => rfl)) (pv 1)))
      (pss_cons (ps_asg (pe_op op_fdivW (pe_ix (kixL K) (pv 0) (pe_int) (fun _ _ => rfl)) (pv 1)) (pg_sub (pv 0) (pe_int) set_list))
      (pss_one (ps_ret (pv 2))))) (pss_nil))
      (pss_cons (ps_asg (pe_op op_add (pe_ix (kixL K) (pv 0) (pe_int) (fun _ _ => rfl)) (pe_int)) (pg_sub (pv 0) (pe_int) set_list))
      (pss_cons (ps_set (i := 3) sc__law_take.nd rfl (by first | exact Or.inl rfl | exact Or.inr rfl) (pe_op op_mod (pe_op op_pow (pe_op op_add (pe_op op_add (pe_ix (kixL K) (pv 0) (pe_int) (fun _ _ => rfl)) (pe_op op_mul (pe_int) (pe_ix (kixL K) (pv 0) (pe_int) (fun _ _ => rfl)))) (pe_int)) (pe_int)) (pe_int)))
      (pss_cons (ps_set (i := 4) sc__law_take.nd rfl (by first | exact Or.inl rfl | exact Or.inr rfl) (pe_op op_mod (pe_op op_pow (pe_op op_add (pe_op op_add (pe_op op_fdiv (pv 3) (pe_int)) (pe_op op_mul (pe_int) (pe_ix (kixL K) (pv 0) (pe_int) (fun _ _ => rfl)))) (pe_int)) (pe_int)) (pe_int)))
      (pss_one (ps_ret (pe_op op_mod (pe_op op_add (pe_op op_fdiv (pv 3) (pe_int)) (pe_op op_mul (pe_int) (pe_op op_fdiv (pv 4) (pe_int)))) (pv 1))))))), ?_⟩
    refine ⟨_, rfl, _, _, _, _, rfl, rfl, SqL.of hb, rfl, _, _, rfl, rfl, _, rfl, ?_⟩
    refine ite2 (fun h0 => ?_) (fun h0 => ?_)
    · refine ⟨_, rfl, _, _, _, _, rfl, rfl, SqL.of hb, rfl, _, rfl, _, _, rfl, rfl, hm, ?_⟩
      refine ⟨_, rfl, _, _, _, _, rfl, rfl, SqL.of hb, rfl, _, rfl, _, _, rfl, rfl, wide_div hm (b := 60) (by omega) (by decide) (by decide), ?_⟩
      refine ⟨_, rfl, _, _, _, 0, rfl, rfl, hb, rfl, ?_⟩
      refine ⟨_, rfl, q _ _ (fun a ha => upd_ne ha) ⟨_, _, _, upd_same, Int.ediv_nonneg hx (by omega), hy, hy2, hc, by omega⟩ (Int.emod_nonneg _ (by omega)) (Int.emod_lt_of_pos _ hm)⟩
    · have e : x = 0 := by
        have z : ¬ (0 < x) := by simpa using h0
        omega
      subst e
      -- box[2] = box[2] + 1
      refine ⟨_, rfl, _, _, _, _, rfl, rfl, SqL.of hb, rfl, _, _, rfl, rfl, _, rfl, _, _, _, 2, rfl, rfl, hb, rfl, ?_⟩
      have hb2 : (upd H b (.lst [.int 0, .int y, .int (c + 1)])) b = some (.lst [.int 0, .int y, .int (c + 1)]) := upd_same
      refine ⟨_, rfl, _, _, _, _, rfl, rfl, SqL.of hb2, rfl, _, rfl, _, _, _, _, rfl, rfl, SqL.of hb2, rfl, _, _, rfl, rfl, .inl ⟨by decide, by decide⟩, _, _, rfl, rfl, _, _, rfl, rfl, _, _, rfl, rfl, ⟨by decide, by decide, ?_⟩, _, _, rfl, rfl, (by show (0 : Int) < 2147483647; decide), ?_⟩
      · show (y + 7919 * (c + 1) + 29).natAbs < 2 ^ 64
        omega
      obtain ⟨u, h1⟩ : ∃ u, u = (y + 7919 * (c + 1) + 29) ^ Int.toNat 5 % 2147483647 := ⟨_, rfl⟩
      have u0 : 0 ≤ u := h1 ▸ Int.emod_nonneg _ (by decide)
      have u1 : u < 2147483647 := h1 ▸ Int.emod_lt_of_pos _ (by decide)
      refine ⟨_, rfl, _, _, rfl, rfl, ⟨by decide, by decide⟩, _, rfl, _, _, _, _, rfl, rfl, SqL.of hb2, rfl, _, _, rfl, rfl, .inl ⟨by decide, by decide⟩, _, _, rfl, rfl, _, _, rfl, rfl, _, _, rfl, rfl, ⟨by decide, by decide, ?_⟩, _, _, rfl, rfl, (by show (0 : Int) < 2147483629; decide), ?_⟩
      · show ((y + 7919 * (c + 1) + 29) ^ Int.toNat 5 % 2147483647 / 8 + 104729 * (c + 1) + 3).natAbs < 2 ^ 64
        rw [← h1]
        omega
      refine ⟨_, rfl, _, _, rfl, rfl, ⟨by decide, by decide⟩, _, rfl, _, _, rfl, rfl, ⟨by decide, by decide⟩, _, _, rfl, rfl, .inl ⟨by decide, by decide⟩, _, _, rfl, rfl, _, rfl, _, _, rfl, rfl, hm, ?_⟩
      exact q _ _ (fun a ha => upd_ne ha) ⟨_, _, _, hb2, Int.le_refl 0, hy, hy2, by omega, by omega⟩ (Int.emod_nonneg _ (by omega)) (Int.emod_lt_of_pos _ hm)
end

end Lw
namespace Lw
open PySem PySem.Spec L2 FG
open PyProof.Rows hiding St
/-! ### frames as plain lists: hs the frames straight around, ts those that were ended to take them -/
def enc : Option Int → V
  | none => .non
  | some i => .int i
def nint (n : Nat) : V := .int (n : Int)
/-- the numbers that stand, rising -/
def stand (ts : List (Option Int)) : List Nat := (List.range ts.length).filter fun i => decide (ts[i]? = some none)
/-- the row from the ground -/
def rowW (hs : List (Option Int)) (i : Nat) : List Nat := match hs[i]? with
  | some (some j) => if j.toNat < i then rowW hs j.toNat ++ [i] else [i]
  | _ => [i]
termination_by i
/-- all that end with f, falling -/
def fin (hs ts : List (Option Int)) (f : Nat) : List Nat := (stand ts).reverse.filter fun k => decide (f ∈ rowW hs k)
/-- taken by f -/
def taken (ts : List (Option Int)) (ks : List Nat) (f : Nat) : List (Option Int) := ks.foldl (fun t k => t.set k (some (f : Int))) ts
structure Wf (hs ts : List (Option Int)) : Prop where
  len : ts.length = hs.length
  pos : 0 < hs.length
  small : hs.length ≤ 101
  root : hs[0]? = some none
  up : ∀ i, 0 < i → i < hs.length → ∃ j : Nat, hs[i]? = some (some (j : Int)) ∧ j < i
theorem wf0 : Wf [none] [none] := ⟨rfl, by decide, by decide, rfl, fun i h1 h2 => by simp at h2; omega⟩
theorem taken_len (ks : List Nat) (f : Nat) : ∀ ts, (taken ts ks f).length = ts.length := by
  induction ks with
  | nil => intro ts; rfl
  | cons k ks ih => intro ts; exact (ih _).trans (List.length_set)
theorem Wf.taken {hs ts : List (Option Int)} (w : Wf hs ts) (ks : List Nat) (f : Nat) : Wf hs (Lw.taken ts ks f) := ⟨(taken_len ks f ts).trans w.len, w.pos, w.small, w.root, w.up⟩
theorem Wf.begun {hs ts : List (Option Int)} (w : Wf hs ts) {f : Nat} (hf : f < hs.length) (h100 : hs.length ≤ 100) : Wf (hs ++ [some (f : Int)]) (ts ++ [none]) := by
  refine ⟨by simp [w.len], by simp, by simp; omega, ?_, fun i h0 h1 => ?_⟩
  · rw [List.getElem?_append_left w.pos]; exact w.root
  · by_cases h : i < hs.length
    · rw [List.getElem?_append_left h]; exact w.up i h0 h
    · have e : i = hs.length := by simp at h1; omega
      subst e
      exact ⟨f, by simp, hf⟩
theorem row_root {hs ts : List (Option Int)} (w : Wf hs ts) : rowW hs 0 = [0] := by rw [rowW, w.root]
theorem row_up {hs : List (Option Int)} {i j : Nat} (h : hs[i]? = some (some (j : Int))) (hj : j < i) : rowW hs i = rowW hs j ++ [i] := by
  rw [rowW, h]
  show (if (j : Int).toNat < i then rowW hs (j : Int).toNat ++ [i] else [i]) = _
  rw [Int.toNat_natCast, if_pos hj]
theorem row_len {hs ts : List (Option Int)} (w : Wf hs ts) : ∀ n i, i < n → i < hs.length → (rowW hs i).length ≤ i + 1 := by
  intro n
  induction n with
  | zero => intro i h; omega
  | succ n ih =>
    intro i h hi
    by_cases h0 : i = 0
    · subst h0; rw [row_root w]; simp
    · obtain ⟨j, e, hj⟩ := w.up i (by omega) hi
      rw [row_up e hj, List.length_append]
      have := ih j (by omega) (by omega)
      simp; omega
theorem row_lt {hs ts : List (Option Int)} (w : Wf hs ts) : ∀ n i, i < n → i < hs.length → ∀ k ∈ rowW hs i, k ≤ i := by
  intro n
  induction n with
  | zero => intro i h; omega
  | succ n ih =>
    intro i h hi k hk
    by_cases h0 : i = 0
    · subst h0; rw [row_root w] at hk; simp at hk; omega
    · obtain ⟨j, e, hj⟩ := w.up i (by omega) hi
      rw [row_up e hj] at hk
      rcases List.mem_append.mp hk with hk | hk
      · have := ih j (by omega) (by omega) k hk; omega
      · simp at hk; omega
theorem mem_stand {ts : List (Option Int)} {i : Nat} : i ∈ stand ts ↔ ts[i]? = some none := by
  unfold stand
  rw [List.mem_filter, List.mem_range]
  constructor
  · rintro ⟨_, h⟩; exact of_decide_eq_true h
  · intro h
    exact ⟨(List.getElem?_eq_some_iff.mp h).1, decide_eq_true h⟩
theorem stand_len (ts : List (Option Int)) : (stand ts).length ≤ ts.length := by
  unfold stand
  exact Nat.le_trans (List.length_filter_le _ _) (by simp)
theorem fin_stand {hs ts : List (Option Int)} {f k : Nat} (h : k ∈ fin hs ts f) : ts[k]? = some none := by
  unfold fin at h
  rw [List.mem_filter, List.mem_reverse] at h
  exact mem_stand.mp h.1
theorem fin_len (hs ts : List (Option Int)) (f : Nat) : (fin hs ts f).length ≤ ts.length := by
  unfold fin
  refine Nat.le_trans (List.length_filter_le _ _) ?_
  rw [List.length_reverse]; exact stand_len ts
theorem filter_more {α : Type} (p : α → Bool) {xs : List α} {i : Nat} {x : α} (h : xs[i]? = some x) : (xs.take (i + 1)).filter p = (xs.take i).filter p ++ (if p x = true then [x] else []) := by
  obtain ⟨hi, e⟩ := List.getElem?_eq_some_iff.mp h
  rw [List.take_succ_eq_append_getElem hi, List.filter_append, e]
  congr 1
  by_cases hp : p x = true
  · simp [hp]
  · simp [hp]
theorem sel_yes {α : Type} (f : α → V) (p : α → Bool) {xs : List α} {i : Nat} {x : α} (h : xs[i]? = some x) (hp : p x = true) : ((xs.take (i + 1)).filter p).map f = ((xs.take i).filter p).map f ++ [f x] := by
  rw [filter_more p h, hp]; simp
theorem sel_no {α : Type} (f : α → V) (p : α → Bool) {xs : List α} {i : Nat} {x : α} (h : xs[i]? = some x) (hp : p x = false) : ((xs.take (i + 1)).filter p).map f = ((xs.take i).filter p).map f := by
  rw [filter_more p h, hp]; simp
theorem foldl_more {α β : Type} (g : β → α → β) {xs : List α} {i : Nat} {x : α} {b : β} (h : xs[i]? = some x) : (xs.take (i + 1)).foldl g b = g ((xs.take i).foldl g b) x := by
  obtain ⟨hi, e⟩ := List.getElem?_eq_some_iff.mp h
  rw [List.take_succ_eq_append_getElem hi, List.foldl_append, e]; rfl
theorem inV_nint (f : Nat) (xs : List Nat) : inV (.int (f : Int)) (xs.map nint) = decide (f ∈ xs) := by
  unfold inV
  rw [Bool.eq_iff_iff, List.any_eq_true, decide_eq_true_eq]
  constructor
  · rintro ⟨y, hy, e⟩
    obtain ⟨n, hn, rfl⟩ := List.mem_map.mp hy
    have e2 : ((n : Int) == (f : Int)) = true := e
    have : n = f := by have := eq_of_beq e2; omega
    subst this; exact hn
  · intro h
    exact ⟨nint f, List.mem_map.mpr ⟨f, h, rfl⟩, by show ((f : Int) == (f : Int)) = true; simp⟩
theorem flat_nint (xs : List Nat) : (xs.map nint).all flatV = true := by
  rw [List.all_eq_true]; rintro y hy; obtain ⟨n, _, rfl⟩ := List.mem_map.mp hy; rfl
theorem dp_enc (K : PySem.W.Frag) (H : Hp) : ∀ xs : List (Option Int), DpAll K H (xs.map enc) (xs.map fun o => match o with | none => PyData.none | some i => PyData.int i)
  | [] => .nil
  | none :: xs => .cons .non (dp_enc K H xs)
  | some i :: xs => .cons (.int i) (dp_enc K H xs)
theorem dp_nint (K : PySem.W.Frag) (H : Hp) : ∀ xs : List Nat, DpAll K H (xs.map nint) (xs.map fun n : Nat => PyData.int (n : Int))
  | [] => .nil
  | n :: xs => .cons (.int (n : Int)) (dp_nint K H xs)
/-- all but the objects of S is as it was -/
def Kp (S : List Addr) (H H' : Hp) : Prop := ∀ b o, H b = some o → b ∉ S → H' b = some o
theorem Kp.refl {S : List Addr} {H : Hp} : Kp S H H := fun _ _ e _ => e
theorem Kp.trans {S : List Addr} {H H1 H2 : Hp} (a : Kp S H H1) (b : Kp S H1 H2) : Kp S H H2 := fun c o e h => b c o (a c o e h) h
theorem Kp.at {S : List Addr} {H H' : Hp} (k : Kp S H H') {b : Addr} {o : HO} (e : H b = some o) (h : b ∉ S) : H' b = some o := k b o e h
theorem Kp.free {H H' : Hp} (k : Kp [] H H') {b : Addr} (e : H' b = none) : H b = none := by
  cases q : H b with
  | none => rfl
  | some o => rw [k b o q (by simp)] at e; cases e

end Lw
namespace Lw
open PySem PySem.Spec L2 FG
open PyProof.Rows hiding St
/-! what is kept -/
theorem But.kp {b : Addr} {H H' : Hp} (k : But b H H') : Kp [b] H H' := fun a o e h => (k a (by simpa using h)).trans e
theorem Kp.mono {S S' : List Addr} {H H' : Hp} (k : Kp S H H') (h : ∀ a ∈ S, a ∈ S') : Kp S' H H' := fun b o e n => k b o e fun z => n (h b z)
theorem BoxAt.kp {S : List Addr} {H H' : Hp} {b : Addr} {n : Int} (x : BoxAt H b n) (k : Kp S H H') (h : b ∉ S) : BoxAt H' b n := by
  obtain ⟨x, y, c, e, r⟩ := x
  exact ⟨x, y, c, k _ _ e h, r⟩
theorem BoxAt.more {H : Hp} {b : Addr} {n m : Int} (x : BoxAt H b n) (h : n ≤ m) : BoxAt H b m := by
  obtain ⟨x, y, c, e, a1, a2, a3, a4, a5⟩ := x
  exact ⟨x, y, c, e, a1, a2, a3, a4, by omega⟩
theorem Kp.new {S : List Addr} {H H1 : Hp} {a : Addr} {o : HO} (k : Kp S H H1) (h : H1 a = none) : Kp S H (L2.upd H1 a o) := fun b ob e n => (upd_ne (ne_of_none (k b ob e n) h)).trans (k b ob e n)
theorem BoxAt.new {H : Hp} {b a : Addr} {n : Int} {o : HO} (x : BoxAt H b n) (h : H a = none) : BoxAt (L2.upd H a o) b n := x.kp (S := []) (Kp.refl.new h) (by simp)
/-- the script: locked, or an object of the module -/
def Scr (K : PySem.W.Frag) (H : Hp) (a : Addr) (ns : List Int) : Prop := (∃ o, H a = some (.frz o (.lst (ns.map V.int)))) ∨ ∀ H', SqL K H' a (ns.map V.int)
theorem Scr.sq {K : PySem.W.Frag} {H : Hp} {a : Addr} {ns : List Int} (x : Scr K H a ns) : SqL K H a (ns.map V.int) := by
  rcases x with ⟨o, z⟩ | z
  · exact .inl (.inr ⟨o, z⟩)
  · exact z H
theorem Scr.of {K : PySem.W.Frag} {H : Hp} {a : Addr} {ns : List Int} (hO : Only H) (h : SqL K H a (ns.map V.int)) : Scr K H a ns := by
  rcases h with (z | ⟨o, z⟩) | z
  · rcases hO a with y | ⟨o, xs, y⟩
    · rw [y] at z; cases z
    · rw [y] at z; cases z
  · exact .inl ⟨o, z⟩
  · exact .inr fun H' => .inr z
theorem Scr.kp {K : PySem.W.Frag} {S : List Addr} {H H' : Hp} {a : Addr} {ns : List Int} (x : Scr K H a ns) (k : Kp S H H') (hS : ∀ b ∈ S, ∀ o u, H b ≠ some (.frz o u)) : Scr K H' a ns := by
  rcases x with ⟨o, z⟩ | z
  · exact .inl ⟨o, k a _ z fun c => hS a c _ _ z⟩
  · exact .inr z
theorem Scr.kp0 {K : PySem.W.Frag} {H H' : Hp} {a : Addr} {ns : List Int} (x : Scr K H a ns) (k : Kp [] H H') : Scr K H' a ns := x.kp k fun _ z => by cases z
theorem BoxAt.nf {H : Hp} {b : Addr} {n : Int} (x : BoxAt H b n) : ∀ c ∈ [b], ∀ o u, H c ≠ some (.frz o u) := by
  obtain ⟨_, _, _, e, _⟩ := x
  intro c hc o u h; rw [List.mem_singleton] at hc; subst hc; rw [e] at h; cases h
theorem BoxAt.ne {H : Hp} {b c : Addr} {n : Int} (x : BoxAt H b n) (hc : H c = none) : c ≠ b := by
  obtain ⟨_, _, _, e, _⟩ := x; exact (ne_of_none e hc).symm

end Lw
namespace Lw
open PySem PySem.Spec L2 FG
open PyProof.Rows hiding St
/-! ### things of any kind; whole numbers, names, pairs -/
theorem iteB {b : Bool} {A B : Prop} (h1 : b = true → A) (h2 : b = false → B) : if b = true then A else B := by
  cases b with
  | true => exact iteT (h1 rfl)
  | false => exact iteF (h2 rfl)
inductive Sh (H : Hp) : V → Prop
  | non : Sh H .non
  | bl (b : Bool) : Sh H (.bl b)
  | int (z : Int) : Sh H (.int z)
  | str (z : Str) (h : z.length ≤ sizeLine) : Sh H (.str z)
  | lst {a : Addr} {xs : List V} (e : H a = some (.lst xs)) : Sh H (.ref a)
  | tup {a : Addr} {xs : List V} (e : H a = some (.tup xs)) : Sh H (.ref a)
  | dK {a : Addr} {kvs : List (Key × V)} (e : H a = some (.dK kvs)) : Sh H (.ref a)
def isIntV : V → Bool
  | .int _ | .bl _ => true
  | _ => false
def isBlV : V → Bool
  | .bl _ => true
  | _ => false
def numV : V → Bool
  | .int _ => true
  | _ => false
def strV : V → Option Str
  | .str z => some z
  | _ => none
def tupV (H : Hp) : V → Option (List V)
  | .ref a => match H a with
    | some (.tup xs) => some xs
    | _ => none
  | _ => none
theorem Sh.kp {H H' : Hp} {v : V} (s : Sh H v) (k : Kp [] H H') : Sh H' v := by
  cases s with
  | non => exact .non
  | bl b => exact .bl b
  | int z => exact .int z
  | str z h => exact .str z h
  | lst e => exact .lst (k _ _ e (by simp))
  | tup e => exact .tup (k _ _ e (by simp))
  | dK e => exact .dK (k _ _ e (by simp))
theorem tupV_some {H : Hp} {v : V} {xs : List V} (h : tupV H v = some xs) : ∃ a, v = .ref a ∧ H a = some (.tup xs) := by
  unfold tupV at h
  split at h
  · rename_i a
    split at h
    · rename_i ys e
      cases h
      exact ⟨a, rfl, e⟩
    · cases h
  · cases h
theorem tupV_ref {H : Hp} {a : Addr} {xs : List V} (h : H a = some (.tup xs)) : tupV H (.ref a) = some xs := by
  simp only [tupV, h]
theorem Sh.tupKp {H H' : Hp} {v : V} (s : Sh H v) (k : Kp [] H H') : tupV H' v = tupV H v := by
  cases s with
  | non => rfl
  | bl b => rfl
  | int z => rfl
  | str z h => rfl
  | lst e => simp only [tupV, e, k _ _ e (by simp)]
  | tup e => simp only [tupV, e, k _ _ e (by simp)]
  | dK e => simp only [tupV, e, k _ _ e (by simp)]
theorem Sh.ty {H : Hp} {v : V} (K : PySem.W.Frag) (s : Sh H v) : ∃ t : String, TyX K H v (.type t) ∧ kitB t "int" = some (isIntV v) ∧ kitB t "bool" = some (isBlV v) ∧ kitB t "str" = some (strV v).isSome ∧ kitB t "tuple" = some (tupV H v).isSome := by
  cases s with
  | non => exact ⟨_, .base .non, by decide +kernel, by decide +kernel, by decide +kernel, by show _ = some false; decide +kernel⟩
  | bl b => exact ⟨_, .base (.bl b), by show _ = some true; decide +kernel, by show _ = some true; decide +kernel, by show _ = some false; decide +kernel, by show _ = some false; decide +kernel⟩
  | int z => exact ⟨_, .base (.int z), by show _ = some true; decide +kernel, by show _ = some false; decide +kernel, by show _ = some false; decide +kernel, by show _ = some false; decide +kernel⟩
  | str z h => exact ⟨_, .base (.str z), by show _ = some false; decide +kernel, by show _ = some false; decide +kernel, by show _ = some true; decide +kernel, by show _ = some false; decide +kernel⟩
  | lst e => exact ⟨_, .base (.lst e), by show _ = some false; decide +kernel, by show _ = some false; decide +kernel, by show _ = some false; decide +kernel, by simp only [tupV, e]; decide +kernel⟩
  | tup e => exact ⟨_, .base (.tup e), by show _ = some false; decide +kernel, by show _ = some false; decide +kernel, by show _ = some false; decide +kernel, by simp only [tupV, e]; show _ = some true; decide +kernel⟩
  | dK e => exact ⟨_, .base (.dK e), by show _ = some false; decide +kernel, by show _ = some false; decide +kernel, by show _ = some false; decide +kernel, by simp only [tupV, e]; decide +kernel⟩
theorem isInt_num (v : V) (h : isIntV v = true) : (!isBlV v) = numV v := by
  cases v <;> first | rfl | cases h
theorem num_int (v : V) (h : isIntV v = false) : numV v = false := by
  cases v <;> first | rfl | cases h
theorem num_some {v : V} (h : numV v = true) : ∃ z, v = .int z := by
  cases v with
  | int z => exact ⟨z, rfl⟩
  | _ => cases h
theorem strV_some {v : V} {z : Str} (h : strV v = some z) : v = .str z := by
  cases v with
  | str y => cases h; rfl
  | _ => cases h
/-- low to high -/
def wholeV (v : V) (a b : Int) : Bool := match v with
  | .int z => decide (a ≤ z ∧ z ≤ b)
  | _ => false
theorem whole_num {v : V} {a b : Int} (h : numV v = false) : wholeV v a b = false := by
  cases v with
  | int z => cases h
  | _ => rfl
def letter (c : Nat) : Bool := decide (97 ≤ c ∧ c ≤ 122)
def nameS (z : Str) : Bool := decide (1 ≤ z.length ∧ z.length ≤ 6) && z.cps.toList.all letter
def nameV (v : V) : Bool := match strV v with
  | some z => nameS z
  | none => false
def posV : V → Bool
  | .int z => decide (0 ≤ z)
  | _ => false
def pairL (xs : List V) : Bool := decide (xs.length = 2) && xs.all posV
def pairV (H : Hp) (v : V) : Bool := match tupV H v with
  | some xs => pairL xs
  | none => false
/-- a thing, and in a tuple such things -/
structure Th (H : Hp) (v : V) : Prop where
  sh : Sh H v
  el : ∀ xs, tupV H v = some xs → xs.length ≤ 100 ∧ ∀ x ∈ xs, Sh H x
theorem Th.kp {H H' : Hp} {v : V} (s : Th H v) (k : Kp [] H H') : Th H' v := ⟨s.sh.kp k, fun xs h => by
  rw [s.sh.tupKp k] at h
  exact ⟨(s.el xs h).1, fun x hx => ((s.el xs h).2 x hx).kp k⟩⟩
theorem Th.pairKp {H H' : Hp} {v : V} (s : Th H v) (k : Kp [] H H') : pairV H' v = pairV H v := by
  unfold pairV; rw [s.sh.tupKp k]
def spNumG : Sp := fun vs H Q _ => ∃ v, vs = [v] ∧ Sh H v ∧ Q (.bl (numV v)) H
def spWholeG : Sp := fun vs H Q _ => ∃ v a b, vs = [v, .int a, .int b] ∧ Sh H v ∧ Q (.bl (wholeV v a b)) H
def spName : Sp := fun vs H Q _ => ∃ v, vs = [v] ∧ Sh H v ∧ ∀ H', Kp [] H H' → Q (.bl (nameV v)) H'
def spPair : Sp := fun vs H Q _ => ∃ v, vs = [v] ∧ Th H v ∧ ∀ H', Kp [] H H' → Q (.bl (pairV H v)) H'
theorem mem_letters (c : Nat) : decide (c ∈ ("abcdefghijklmnopqrstuvwxyz" : Str).cps.toList) = letter c := by
  have e : ("abcdefghijklmnopqrstuvwxyz" : Str).cps.toList = (List.range 26).map (· + 97) := by decide +kernel
  unfold letter
  rw [e, decide_eq_decide, List.mem_map]
  constructor
  · rintro ⟨x, hx, rfl⟩
    have := List.mem_range.mp hx
    omega
  · rintro ⟨h1, h2⟩
    exact ⟨c - 97, List.mem_range.mpr (by omega), by omega⟩
theorem all_take {α : Type} (p : α → Bool) (xs : List α) : ((xs.map p).all id) = xs.all p := by
  induction xs with
  | nil => rfl
  | cons x xs ih => simp [ih]
theorem map_take {α β : Type} (f : α → β) {xs : List α} {i : Nat} {x : α} (h : xs[i]? = some x) : (xs.take (i + 1)).map f = (xs.take i).map f ++ [f x] := by
  obtain ⟨hi, e⟩ := List.getElem?_eq_some_iff.mp h
  rw [List.take_succ_eq_append_getElem hi, List.map_append, e]; rfl
section
variable {P : Program} {w : World} {K : PySem.W.Frag} {mg : Str → Option Value} {base : Heap}
theorem ok_number (T : Tx K mg) {fd : FuncData} (F : Fun K "is_number" "is_number" s_is_number (He.ga K "is_number") fd) : FnG P w K mg base 1 (He.ga K "is_number") fd ["thing"] spNumG := by
  refine FnG.of F sc_is_number (fun vs H Q E h => ?_) (fun cdv A outer s H vs Q E hr h => ?_)
  · obtain ⟨v, rfl, _⟩ := h; rfl
  · obtain ⟨v, rfl, sh, q⟩ := h
    obtain ⟨t, ht, hi, hb, _, _⟩ := sh.ty K
    refine ⟨_, pss_one (ps_ret (pe_and (pe_callB (kisi K) (by rfl) T.z_isinstance (by decide +kernel) (pa_cons (pv 0) (pa_cons (pe_bltn (v := .ty "int") (by rfl) T.z_int (by decide +kernel) rfl) (pa_nil)))) (pe_one (pe_not (pe_callB (kisi K) (by rfl) T.z_isinstance (by decide +kernel) (pa_cons (pv 0) (pa_cons (pe_bltn (v := .ty "bool") (by rfl) T.z_bool (by decide +kernel) rfl) (pa_nil)))))))), ?_⟩
    refine ⟨_, rfl, _, _, _, _, _, rfl, .ty _, ht, kit_ty hi, _, rfl, ?_⟩
    refine iteB (fun h1 => ?_) (fun h1 => ?_)
    · refine ⟨_, rfl, _, _, _, _, _, rfl, .ty _, ht, kit_ty hb, _, rfl, ?_⟩
      rw [← isInt_num v h1] at q; exact q
    · rw [num_int v h1] at q; exact q
theorem ok_whole (T : Tx K mg) {fd : FuncData} (F : Fun K "is_whole" "is_whole" s_is_whole (He.ga K "is_whole") fd) (c_is_number : Cal P w K mg base 1 "is_number" spNumG) : FnG P w K mg base 2 (He.ga K "is_whole") fd ["thing", "low", "high"] spWholeG := by
  refine FnG.of F sc_is_whole (fun vs H Q E h => ?_) (fun cdv A outer s H vs Q E hr h => ?_)
  · obtain ⟨v, a, b, rfl, _⟩ := h; rfl
  · obtain ⟨v, a, b, rfl, sh, q⟩ := h
    refine ⟨_, pss_one (ps_ret (pe_and (gc c_is_number (hr.mono (by decide)) takes0 (pa_cons (pv 0) (pa_nil))) (pe_one (pe_chain op_le op_le (pv 1) (pv 0) (pv 2))))), ?_⟩
    refine ⟨_, rfl, v, rfl, sh, _, rfl, ?_⟩
    refine iteB (fun h1 => ?_) (fun h1 => ?_)
    · obtain ⟨z, rfl⟩ := num_some h1
      refine ⟨_, rfl, _, rfl, _, _, rfl, rfl, _, rfl, ?_⟩
      by_cases h1 : a ≤ z
      · rw [decide_eq_true h1]
        refine iteT ⟨_, rfl, _, _, rfl, rfl, ?_⟩
        have e : wholeV (.int z) a b = decide (z ≤ b) := by simp [wholeV, h1]
        rw [e] at q; exact q
      · rw [decide_eq_false h1]
        refine iteF ?_
        have e : wholeV (.int z) a b = false := by simp [wholeV, h1]
        rw [e] at q; exact q
    · rw [whole_num h1] at q; exact q
theorem ok_pair (T : Tx K mg) {fd : FuncData} (F : Fun K "is_pair" "is_pair" s_is_pair (He.ga K "is_pair") fd) (c_is_number : Cal P w K mg base 1 "is_number" spNumG) : FnG P w K mg base 2 (He.ga K "is_pair") fd ["thing"] spPair := by
  refine FnG.of F sc_is_pair (fun vs H Q E h => ?_) (fun cdv A outer s H vs Q E hr h => ?_)
  · obtain ⟨v, rfl, _⟩ := h; rfl
  · obtain ⟨v, rfl, ⟨sh, el⟩, q⟩ := h
    obtain ⟨t, ht, _, _, _, hs⟩ := sh.ty K
    refine ⟨_, pss_cons (ps_if (PW.pt (pw_or (pt_not (pt_val (pe_callB (kisi K) (by rfl) T.z_isinstance (by decide +kernel) (pa_cons (pv 0) (pa_cons (pe_bltn (v := .ty "tuple") (by rfl) T.z_tuple (by decide +kernel) rfl) (pa_nil)))))) (pw_or1 (pt_cmpR op_ne (pe_callB (klen K) (by rfl) T.z_len PySem.boot_len (pa_cons (pv 0) (pa_nil))) (pe_int) (by first | exact nomark _ | rfl))))) (pss_one (ps_ret (pe_bl))) (pss_nil))
      (pss_one (ps_ret (pe_callB (kall K) (by rfl) T.z_all (by decide +kernel) (pa_cons (pe_lc (own := [("one", 1)]) (g := gName 1) (tt := tYes) rfl sc_is_pair.nd (kiT K (pv 0)) (blkOk_by (own := [("one", 1)]) (N := ["thing", "one"]) (sc := defScope s_is_pair) (by decide +kernel)) (fun _ _ _ _ _ => pg_name (i := 1) sc_is_pair.nd rfl (by first | exact Or.inl rfl | exact Or.inr rfl)) (fun _ _ _ _ _ => by exact pts_nil) (fun _ _ _ _ _ => by exact pe_and (gc c_is_number (hr.mono (by decide)) takes0 (pa_cons (pv 1) (pa_nil))) (pe_one (pe_cmpR op_ge (pv 1) (pe_int) (by first | exact nomark _ | rfl))))) (pa_nil))))), ?_⟩
    cases hv : tupV H v with
    | none =>
      rw [hv] at hs
      have e : pairV H v = false := by unfold pairV; rw [hv]
      rw [e] at q
      exact ⟨_, rfl, _, _, _, _, false, rfl, .ty _, ht, kit_ty hs, false, rfl, iteT (iteT (q H Kp.refl))⟩
    | some xs =>
      rw [hv] at hs
      obtain ⟨a, rfl, ea⟩ := tupV_some hv
      obtain ⟨hl, hx⟩ := el xs hv
      have e : pairV H (.ref a) = pairL xs := by unfold pairV; rw [hv]
      rw [e] at q
      refine ⟨_, rfl, _, _, _, _, true, rfl, .ty _, ht, kit_ty hs, true, rfl, iteF ⟨_, rfl, a, xs, rfl, .inr (SqT.of ea), rfl, _, rfl, ?_⟩⟩
      by_cases h2 : xs.length = 2
      · have z : decide (V.int xs.length = V.int 2) = true := decide_eq_true (by rw [h2]; rfl)
        rw [z]
        refine iteF ⟨_, rfl, a, rfl, ⟨xs, SqT.of ea⟩, fun D hD => ?_⟩
        have neD : ∀ b o, H b = some o → b ≠ D := fun b o eb => ne_of_none eb hD
        refine lc_tup (K := K) (a := a) (xs := xs) (fun i H2 => Kp [] H H2 ∧ H2 D = some (.lst (((xs.take i).map posV).map V.bl))) ⟨fun b o eb _ => (upd_ne (neD b o eb)).trans eb, upd_same⟩ (fun i H2 _ ⟨k2, _⟩ => SqT.of (k2 _ _ ea (by simp))) ?_ ?_
        · rintro i x H2 hx2 ⟨k2, eD⟩
          have hm : x ∈ xs := List.mem_of_getElem? hx2
          have fin : ∀ b, b = posV x → ∃ acc, H2 D = some (.lst acc) ∧ acc.length < sizeLine ∧ Kp [] H (upd H2 D (.lst (acc ++ [V.bl b]))) ∧ upd H2 D (.lst (acc ++ [V.bl b])) D = some (.lst (((xs.take (i + 1)).map posV).map V.bl)) := by
            rintro b rfl
            refine ⟨_, eD, ?_, fun b o eb _ => (upd_ne (neD b o eb)).trans (k2 b o eb (by simp)), ?_⟩
            · have h9 : (List.take i xs).length ≤ (xs).length := by rw [List.length_take]; omega
              rw [List.length_map, List.length_map]
              exact Nat.lt_of_le_of_lt (m := 2) (by omega) (by decide)
            · rw [upd_same, map_take posV hx2, List.map_append]; rfl
          refine ⟨rfl, _, rfl, x, rfl, (hx x hm).kp k2, _, rfl, ?_⟩
          refine iteB (fun h1 => ?_) (fun h1 => ?_)
          · obtain ⟨z, rfl⟩ := num_some h1
            exact ⟨_, rfl, _, _, rfl, rfl, fin _ rfl⟩
          · exact fin _ (by cases x with | int z => cases h1 | _ => rfl)
        · rintro H2 ⟨k2, eD⟩
          rw [List.take_length] at eD
          refine ⟨D, xs.map posV, rfl, SqL.of eD, ?_⟩
          rw [all_take]
          have e2 : pairL xs = xs.all posV := by unfold pairL; rw [decide_eq_true h2, Bool.true_and]
          rw [← e2]; exact q H2 k2
      · have z : decide (V.int xs.length = V.int 2) = false := decide_eq_false (fun c => h2 (by injection c with c; omega))
        rw [z]
        have e2 : pairL xs = false := by unfold pairL; rw [decide_eq_false h2, Bool.false_and]
        rw [e2] at q
        exact iteT (q H Kp.refl)
end

end Lw
namespace Lw
open PySem PySem.Spec L2 FG
open PyProof.Rows hiding St
/-! ### Frames, where nothing is refused -/
def frMeths : List Str := ["need_begun", "need_standing", "need_more", "begin", "finish", "clear", "stands", "inside", "row", "within", "ended_by", "standing", "begun", "make", "need_room", "need_cell", "is_value", "get", "put", "size", "cells", "rooms", "used", "left", "limit", "greatest", "picture", "twin"]
structure FrF (fs : List (Str × V)) (h t : Addr) : Prop where
  hh : fs.lookup ("holders" : Str) = some (.ref h)
  tt : fs.lookup ("takers" : Str) = some (.ref t)
  no : ∀ m ∈ frMeths, fs.lookup m = none
/-- at p an instance of the class at C, which is under Frames: its lists stand at h and t -/
structure FrAt (C : Addr) (H : Hp) (p h t : Addr) (hs ts : List (Option Int)) : Prop where
  ob : ∃ dx fs, H p = some (.ins C dx fs) ∧ FrF fs h t
  lh : H h = some (.lst (hs.map enc))
  lt : H t = some (.lst (ts.map enc))
  ne : h ≠ t
  wf : Wf hs ts
theorem FrAt.kp {S : List Addr} {C : Addr} {H H' : Hp} {p h t : Addr} {hs ts : List (Option Int)} (f : FrAt C H p h t hs ts) (k : Kp S H H') (h1 : p ∉ S) (h2 : h ∉ S) (h3 : t ∉ S) : FrAt C H' p h t hs ts := by
  obtain ⟨dx, fs, e, ff⟩ := f.ob
  exact ⟨⟨dx, fs, k _ _ e h1, ff⟩, k _ _ f.lh h2, k _ _ f.lt h3, f.ne, f.wf⟩
theorem FrAt.kp0 {C : Addr} {H H' : Hp} {p h t : Addr} {hs ts : List (Option Int)} (f : FrAt C H p h t hs ts) (k : Kp [] H H') : FrAt C H' p h t hs ts := f.kp k (by simp) (by simp) (by simp)
theorem FrAt.ph {C : Addr} {H : Hp} {p h t : Addr} {hs ts : List (Option Int)} (f : FrAt C H p h t hs ts) : p ≠ h ∧ p ≠ t := by
  obtain ⟨dx, fs, e, ff⟩ := f.ob
  exact ⟨ne_of e f.lh (by intro q; cases q), ne_of e f.lt (by intro q; cases q)⟩
abbrev CF (K : PySem.W.Frag) : Addr := He.ga K "Frames"
/-- where a valid number is handed in -/
def spBeg (C : Addr) : Sp := fun vs H Q _ => ∃ p h t hs ts, ∃ n : Nat, vs = [.ref p, nint n] ∧ FrAt C H p h t hs ts ∧ n < hs.length ∧ Q .non H
def spStd (C : Addr) : Sp := fun vs H Q _ => ∃ p h t hs ts, ∃ n : Nat, vs = [.ref p, nint n] ∧ FrAt C H p h t hs ts ∧ ts[n]? = some none ∧ Q .non H
def spMore (C : Addr) : Sp := fun vs H Q _ => ∃ p h t hs ts, vs = [.ref p] ∧ FrAt C H p h t hs ts ∧ hs.length ≤ 100 ∧ Q .non H
def spBegin (C : Addr) : Sp := fun vs H Q _ => ∃ p h t hs ts, ∃ n : Nat, vs = [.ref p, nint n] ∧ FrAt C H p h t hs ts ∧ ts[n]? = some none ∧ hs.length ≤ 100 ∧
  ∀ H', Kp [h, t] H H' → FrAt C H' p h t (hs ++ [some (n : Int)]) (ts ++ [none]) → Q (nint hs.length) H'
def spFin (C : Addr) : Sp := fun vs H Q _ => ∃ p h t hs ts, ∃ n : Nat, vs = [.ref p, nint n] ∧ FrAt C H p h t hs ts ∧ ts[n]? = some none ∧ 0 < n ∧
  ∀ l H', H l = none → Kp [t] H H' → FrAt C H' p h t hs (taken ts (fin hs ts n) n) → H' l = some (.lst ((fin hs ts n).map nint)) → Q (.ref l) H'
def spClear : Sp := fun vs H Q _ => ∃ p f, vs = [p, f] ∧ Q .non H
def spStands (C : Addr) : Sp := fun vs H Q _ => ∃ p h t hs ts, ∃ z : Int, vs = [.ref p, .int z] ∧ FrAt C H p h t hs ts ∧ Q (.bl (decide (0 ≤ z ∧ ts[z.toNat]? = some none))) H
def spRow (C : Addr) : Sp := fun vs H Q _ => ∃ p h t hs ts, ∃ n : Nat, vs = [.ref p, nint n] ∧ FrAt C H p h t hs ts ∧ n < hs.length ∧
  ∀ l H', H l = none → Kp [] H H' → H' l = some (.lst ((rowW hs n).map nint)) → Q (.ref l) H'
def spBy (C : Addr) : Sp := fun vs H Q _ => ∃ p h t hs ts, ∃ (n : Nat) (o : Option Int), vs = [.ref p, nint n] ∧ FrAt C H p h t hs ts ∧ ts[n]? = some o ∧ Q (enc o) H
def spStanding (C : Addr) : Sp := fun vs H Q _ => ∃ p h t hs ts, vs = [.ref p] ∧ FrAt C H p h t hs ts ∧ ∀ l H', H l = none → Kp [] H H' → H' l = some (.lst ((stand ts).map nint)) → Q (.ref l) H'
def spBegun (C : Addr) : Sp := fun vs H Q _ => ∃ p h t hs ts, vs = [.ref p] ∧ FrAt C H p h t hs ts ∧ Q (.int ((hs.length : Int) - 1)) H
/-- of any int: is_number; between: is_whole -/
def spNum : Sp := fun vs H Q _ => ∃ z : Int, vs = [.int z] ∧ Q (.bl true) H
def spWhole : Sp := fun vs H Q _ => ∃ z a b : Int, vs = [.int z, .int a, .int b] ∧ Q (.bl (decide (a ≤ z ∧ z ≤ b))) H
def spFInit (C : Addr) : Sp := fun vs H Q _ => ∃ p dx, vs = [.ref p] ∧ H p = some (.ins C dx []) ∧ ∀ h t H', H h = none → H t = none → h ≠ p → t ≠ p → Kp [p] H H' → FrAt C H' p h t [none] [none] → H' p = some (.ins C dx (putF "takers" (.ref t) (putF "holders" (.ref h) []))) → Q .non H'

theorem frF0 (h t : Addr) : FrF (putF "takers" (.ref t) (putF "holders" (.ref h) [])) h t := by
  have n1 : ¬ (("holders" : Str) = "takers") := by decide +kernel
  refine ⟨by rw [lookup_putF, if_neg n1, lookup_putF, if_pos rfl], by rw [lookup_putF, if_pos rfl], fun m hm => ?_⟩
  have z : (frMeths.all fun m => decide (¬ m = ("takers" : Str) ∧ ¬ m = ("holders" : Str))) = true := by decide +kernel
  have z2 := of_decide_eq_true (List.all_eq_true.mp z m hm)
  rw [lookup_putF, if_neg z2.1, lookup_putF, if_neg z2.2]; rfl
theorem get_enc {xs : List (Option Int)} {n : Nat} {o : Option Int} (h : xs[n]? = some o) : atI (xs.map enc) (n : Int) = some (enc o) := atI_nat (by rw [List.getElem?_map, h]; rfl)
theorem rt_of {Q : VK} {a b : V} {H : Hp} (e : a = b) (q : Q b H) : Q a H := e ▸ q
theorem Cal.weaker {P : Program} {w : World} {K : PySem.W.Frag} {mg : Str → Option Value} {base : Heap} {k : Nat} {x : Str} {sp sp' : Sp} (c : Cal P w K mg base k x sp) (h : ∀ vs H Q E, sp' vs H Q E → sp vs H Q E) : Cal P w K mg base k x sp' :=
  let ⟨f, fd, ps, F, r⟩ := c.ex; ⟨f, fd, ps, F.weaker h, r⟩
theorem whole_of {P : Program} {w : World} {K : PySem.W.Frag} {mg : Str → Option Value} {base : Heap} {k : Nat} (c : Cal P w K mg base k "is_whole" spWholeG) : Cal P w K mg base k "is_whole" spWhole :=
  Cal.weaker c fun vs H Q E ⟨z, a, b, e, q⟩ => ⟨.int z, a, b, e, .int z, q⟩
section
variable {P : Program} {w : World} {K : PySem.W.Frag} {mg : Str → Option Value} {base : Heap}
theorem ok_finit (T : Tx K mg) {C : Addr} (cC : Cls K C) (nH : NoAttr K C "holders") (nT : NoAttr K C "takers") {fd : FuncData} {f : Addr} (F : Fun K "__init__" "Frames.__init__" s_Frames___init__ f fd) : FnG P w K mg base 1 f fd ["self"] (spFInit C) := by
  refine FnG.of F sc_Frames___init__ (fun vs H Q E h => ?_) (fun cdv A outer s H vs Q E hr h => ?_)
  · obtain ⟨p, dx, rfl, _⟩ := h; rfl
  · obtain ⟨p, dx, rfl, hp, q⟩ := h
    refine ⟨_, pss_cons (ksFld K (pv 0) (pe_lst (pa_cons (pe_non) (pa_nil))))
      (pss_one (ksFld K (pv 0) (pe_lst (pa_cons (pe_non) (pa_nil))))), ?_⟩
    refine ⟨by decide, fun h hh => ?_⟩
    have n1 : p ≠ h := ne_of_none hp hh
    refine ⟨_, rfl, p, C, dx, [], rfl, (by rw [upd_ne n1]; exact hp), cC, nH, (by show 0 < 1000; decide), by decide, fun t ht => ?_⟩
    have n2 : t ≠ p := fun z => by rw [z, upd_same] at ht; cases ht
    have n3 : t ≠ h := fun z => by rw [z, upd_ne n1.symm, upd_same] at ht; cases ht
    have ht0 : H t = none := by rw [upd_ne n2, upd_ne n3] at ht; exact ht
    refine ⟨_, rfl, p, C, dx, _, rfl, (by rw [upd_ne n2.symm, upd_same]), cC, nT, (by show 1 < 1000; decide), ?_⟩
    refine q h t _ hh ht0 n1.symm n2 (fun b o e hb => ?_) ⟨⟨dx, _, upd_same, frF0 h t⟩, ?_, ?_, n3.symm, wf0⟩ upd_same
    · have hb2 : b ≠ p := by simpa using hb
      rw [upd_ne hb2, upd_ne (ne_of_none e ht0), upd_ne hb2, upd_ne (ne_of_none e hh)]; exact e
    · rw [upd_ne n1.symm, upd_ne n3.symm, upd_ne n1.symm, upd_same]; rfl
    · rw [upd_ne n2, upd_same]; rfl
theorem ok_begun_ (T : Tx K mg) {C : Addr} (cC : Cls K C) (nH : NoAttr K C "holders") (nT : NoAttr K C "takers") {fd : FuncData} {f : Addr} (F : Fun K "need_begun" "Frames.need_begun" s_House_need_begun f fd) (c_is_whole : Cal P w K mg base 2 "is_whole" spWhole) (r_NoFrame : Rai P w K mg base "NoFrame" (He.ga K "NoFrame") ["found"]) : FnG P w K mg base 3 f fd ["self", "frame"] (spBeg C) := by
  refine FnG.of F sc_House_need_begun (fun vs H Q E h => ?_) (fun cdv A outer s H vs Q E hr h => ?_)
  · obtain ⟨p, h, t, hs, ts, n, rfl, _⟩ := h; rfl
  · obtain ⟨p, h, t, hs, ts, n, rfl, ⟨⟨dx, fs, e, ff⟩, lh, lt, ne, wf⟩, hn, q⟩ := h
    refine ⟨_, pss_one (ps_if (pt_not (pt_val (gc c_is_whole (hr.mono (by decide)) tkE (pa_cons (pv 1) (pa_cons (pe_int) (pa_cons (pe_op op_sub (pe_callB (klen K) (by rfl) T.z_len PySem.boot_len (pa_cons (kfld K (pv 0)) (pa_nil))) (pe_int)) (pa_nil))))))) (pss_one (ps_rais r_NoFrame (hr.mono (by decide)) tkE (pa_cons (pv 1) (pa_nil)))) (pss_nil)), ?_⟩
    refine ⟨_, rfl, _, rfl, p, C, dx, fs, _, rfl, e, cC, nH, ff.hh, h, _, rfl, .inl (SqL.of lh), _, _, rfl, rfl, n, 0, _, rfl, _, rfl, ?_⟩
    have z : decide ((0 : Int) ≤ n ∧ (n : Int) ≤ ((hs.map enc).length : Int) - 1) = true := by
      rw [List.length_map]; exact decide_eq_true ⟨by omega, by omega⟩
    rw [z]
    exact iteF q
theorem ok_std (T : Tx K mg) {C : Addr} (cC : Cls K C) (nH : NoAttr K C "holders") (nT : NoAttr K C "takers") {fd : FuncData} {f : Addr} (F : Fun K "need_standing" "Frames.need_standing" s_House_need_standing f fd) (m_need_begun : Met P w K mg base 3 C "need_begun" (spBeg C)) (r_Gone : Rai P w K mg base "Gone" (He.ga K "Gone") ["found", "by"]) : FnG P w K mg base 4 f fd ["self", "frame"] (spStd C) := by
  refine FnG.of F sc_House_need_standing (fun vs H Q E h => ?_) (fun cdv A outer s H vs Q E hr h => ?_)
  · obtain ⟨p, h, t, hs, ts, n, rfl, _⟩ := h; rfl
  · obtain ⟨p, h, t, hs, ts, n, rfl, fr, hn, q⟩ := h
    obtain ⟨⟨dx, fs, e, ff⟩, lh, lt, ne, wf⟩ := id fr
    have hl := (List.getElem?_eq_some_iff.mp hn).1
    refine ⟨_, pss_cons (ps_expr (gm m_need_begun (hr.mono (by decide)) tkE (pv 0) (pa_cons (pv 1) (pa_nil))))
      (pss_one (ps_if (pt_cmpR op_notN (pe_ix (kixL K) (kfld K (pv 0)) (pv 1) (fun _ _ => rfl)) (pe_non) (by first | exact nomark _ | rfl)) (pss_one (ps_rais r_Gone (hr.mono (by decide)) tkE (pa_cons (pv 1) (pa_cons (pe_ix (kixL K) (kfld K (pv 0)) (pv 1) (fun _ _ => rfl)) (pa_nil))))) (pss_nil))), ?_⟩
    refine ⟨_, rfl, p, dx, fs, rfl, e, ff.no _ (by decide +kernel), _, rfl, p, h, t, hs, ts, n, rfl, fr, wf.len ▸ hl, ?_⟩
    refine ⟨_, rfl, p, C, dx, fs, _, rfl, e, cC, nT, ff.tt, _, rfl, t, _, _, _, rfl, rfl, SqL.of lt, get_enc hn, rfl, _, rfl, iteF q⟩
theorem ok_more (T : Tx K mg) {C : Addr} (cC : Cls K C) (nH : NoAttr K C "holders") (nT : NoAttr K C "takers") {fd : FuncData} {f : Addr} (F : Fun K "need_more" "Frames.need_more" s_House_need_more f fd) (r_TooMany : Rai P w K mg base "TooMany" (He.ga K "TooMany") ["many"]) : FnG P w K mg base 3 f fd ["self"] (spMore C) := by
  obtain ⟨tM, hg_MOST⟩ := T.i_MOST
  refine FnG.of F sc_House_need_more (fun vs H Q E h => ?_) (fun cdv A outer s H vs Q E hr h => ?_)
  · obtain ⟨p, h, t, hs, ts, rfl, _⟩ := h; rfl
  · obtain ⟨p, h, t, hs, ts, rfl, ⟨⟨dx, fs, e, ff⟩, lh, lt, ne, wf⟩, hn, q⟩ := h
    refine ⟨_, pss_one (ps_if (pt_cmpR op_gt (pe_callB (klen K) (by rfl) T.z_len PySem.boot_len (pa_cons (kfld K (pv 0)) (pa_nil))) (pe_glob (v := .int 100) rfl hg_MOST ⟨_, rfl⟩) (by first | exact nomark _ | rfl)) (pss_one (ps_rais r_TooMany (hr.mono (by decide)) tkE (pa_cons (pe_callB (klen K) (by rfl) T.z_len PySem.boot_len (pa_cons (kfld K (pv 0)) (pa_nil))) (pa_nil)))) (pss_nil)), ?_⟩
    refine ⟨_, rfl, p, C, dx, fs, _, rfl, e, cC, nH, ff.hh, h, _, rfl, .inl (SqL.of lh), _, 100, rfl, rfl, _, rfl, ?_⟩
    have z : decide ((100 : Int) < ((hs.map enc).length : Int)) = false := by
      rw [List.length_map]; exact decide_eq_false (by omega)
    show if decide ((100 : Int) < ((hs.map enc).length : Int)) = true then _ else _
    rw [z]
    exact iteF q
theorem ok_begin (T : Tx K mg) {C : Addr} (cC : Cls K C) (nH : NoAttr K C "holders") (nT : NoAttr K C "takers") {fd : FuncData} {f : Addr} (F : Fun K "begin" "Frames.begin" s_House_begin f fd) (m_need_standing : Met P w K mg base 4 C "need_standing" (spStd C)) (m_need_more : Met P w K mg base 3 C "need_more" (spMore C)) :
    FnG P w K mg base 5 f fd ["self", "frame"] (spBegin C) := by
  refine FnG.of F sc_House_begin (fun vs H Q E h => ?_) (fun cdv A outer s H vs Q E hr h => ?_)
  · obtain ⟨p, h, t, hs, ts, n, rfl, _⟩ := h; rfl
  · obtain ⟨p, h, t, hs, ts, n, rfl, fr, hn, h100, q⟩ := h
    obtain ⟨⟨dx, fs, e, ff⟩, lh, lt, ne, wf⟩ := id fr
    have hl := (List.getElem?_eq_some_iff.mp hn).1
    have wl := wf.len
    obtain ⟨ph, pt⟩ := fr.ph
    refine ⟨_, pss_cons (ps_expr (gm m_need_standing (hr.mono (by decide)) takes0 (pv 0) (pa_cons (pv 1) (pa_nil))))
      (pss_cons (ps_expr (gm0 m_need_more (hr.mono (by decide)) takes0 (pv 0)))
      (pss_cons (ps_expr (kbm K PySem.F.plainAttrs_list PySem.F.slot_list_append PySem.F.type_list_append mt_append (kfld K (pv 0)) (pa_cons (pv 1) (pa_nil))))
      (pss_cons (ps_expr (kbm K PySem.F.plainAttrs_list PySem.F.slot_list_append PySem.F.type_list_append mt_append (kfld K (pv 0)) (pa_cons (pe_non) (pa_nil))))
      (pss_one (ps_ret (pe_op op_sub (pe_callB (klen K) (by rfl) T.z_len PySem.boot_len (pa_cons (kfld K (pv 0)) (pa_nil))) (pe_int))))))), ?_⟩
    refine ⟨_, rfl, p, dx, fs, rfl, e, ff.no _ (by decide +kernel), _, rfl, p, h, t, hs, ts, n, rfl, fr, hn, ?_⟩
    refine ⟨_, rfl, p, dx, fs, rfl, e, ff.no _ (by decide +kernel), p, h, t, hs, ts, rfl, fr, h100, ?_⟩
    refine ⟨_, rfl, p, C, dx, fs, _, rfl, e, cC, nH, ff.hh, .inl ⟨rfl, _, SqL.of lh⟩, _, rfl, h, _, _, rfl, rfl, lh, (by rw [List.length_map]; exact small1000 (by omega)), ?_⟩
    have e1 : upd H h (.lst (hs.map enc ++ [nint n])) p = some (.ins C dx fs) := (upd_ne ph).trans e
    have l1 : upd H h (.lst (hs.map enc ++ [nint n])) t = some (.lst (ts.map enc)) := (upd_ne ne.symm).trans lt
    refine ⟨_, rfl, p, C, dx, fs, _, rfl, e1, cC, nT, ff.tt, .inl ⟨rfl, _, SqL.of l1⟩, t, _, _, rfl, rfl, l1, (by rw [List.length_map]; exact small1000 (by omega)), ?_⟩
    have e2 : upd (upd H h (.lst (hs.map enc ++ [nint n]))) t (.lst (ts.map enc ++ [V.non])) p = some (.ins C dx fs) := (upd_ne pt).trans e1
    have l2 : upd (upd H h (.lst (hs.map enc ++ [nint n]))) t (.lst (ts.map enc ++ [V.non])) h = some (.lst (hs.map enc ++ [nint n])) := (upd_ne ne).trans upd_same
    refine ⟨_, rfl, p, C, dx, fs, _, rfl, e2, cC, nH, ff.hh, h, _, rfl, .inl (SqL.of l2), _, _, rfl, rfl, ?_⟩
    have z : (((hs.map enc ++ [nint n]).length : Nat) : Int) - 1 = (hs.length : Int) := by simp
    refine rt_of (b := nint hs.length) (congrArg V.int z) ?_
    refine q _ (fun b o eb hb => ?_) ⟨⟨dx, fs, e2, ff⟩, ?_, ?_, ne, wf.begun (by omega) h100⟩
    · simp at hb
      rw [upd_ne hb.2, upd_ne hb.1]; exact eb
    · rw [l2, List.map_append]; rfl
    · rw [upd_same, List.map_append]; rfl
theorem ok_standing (T : Tx K mg) {C : Addr} (cC : Cls K C) (nH : NoAttr K C "holders") (nT : NoAttr K C "takers") {fd : FuncData} {f : Addr} (F : Fun K "standing" "Frames.standing" s_House_standing f fd) : FnG P w K mg base 1 f fd ["self"] (spStanding C) := by
  refine FnG.of F sc_House_standing (fun vs H Q E h => ?_) (fun cdv A outer s H vs Q E hr h => ?_)
  · obtain ⟨p, h, t, hs, ts, rfl, _⟩ := h; rfl
  · obtain ⟨p, h, t, hs, ts, rfl, ⟨⟨dx, fs, e, ff⟩, lh, lt, ne, wf⟩, q⟩ := h
    have wl := wf.len
    have ws := wf.small
    refine ⟨_, pss_one (ps_ret (pe_lc (own := [("one", 1)]) (g := gName 1) rfl sc_House_standing.nd (pi_range1 rfl T.z_range (pa_cons (pe_callB (klen K) (by rfl) T.z_len PySem.boot_len (pa_cons (kfld K (pv 0)) (pa_nil))) (pa_nil))) (blkOk_by (own := [("one", 1)]) (N := ["self", "one"]) (sc := defScope s_House_standing) (by decide +kernel)) (fun _ _ _ _ _ => pg_name (i := 1) sc_House_standing.nd rfl (by first | exact Or.inl rfl | exact Or.inr rfl)) (fun _ _ _ _ _ => by exact pts_one (pt_cmpR op_isN (pe_ix (kixL K) (kfld K (pv 0)) (pv 1) (fun _ _ => rfl)) (pe_non) (by first | exact nomark _ | rfl))) (fun _ _ _ _ _ => by exact pv 1))), ?_⟩
    refine ⟨_, rfl, p, C, dx, fs, _, rfl, e, cC, nT, ff.tt, t, _, rfl, .inl (SqL.of lt), _, rfl, (by rw [List.length_map]; omega), (by rw [List.length_map]; omega), fun D hD => ?_⟩
    refine lc_range (lo := 0) (n := _) (fun i H' => Kp [] H H' ∧ H' D = some (.lst (((List.range ts.length).take i |>.filter fun j => decide (ts[j]? = some none)).map nint)))
      ⟨fun b o eb _ => (upd_ne (ne_of_none eb hD)).trans eb, upd_same⟩ ?_ ?_
    · rintro i H' hi ⟨kp, hD'⟩
      have hi2 : i < ts.length := by simpa using hi
      refine ⟨rfl, _, rfl, p, C, dx, fs, _, rfl, kp _ _ e (by simp), cC, nT, ff.tt, _, rfl, t, _, _, enc ts[i], rfl, rfl, SqL.of (kp _ _ lt (by simp)), ?_, rfl, _, rfl, ?_⟩
      · rw [Int.zero_add]; exact get_enc (List.getElem?_eq_getElem hi2)
      · have hr2 : (List.range ts.length)[i]? = some i := by simp [hi2]
        have hx : decide (ts[i]? = some none) = decide (enc ts[i] = V.non) := by
          rw [List.getElem?_eq_getElem hi2]
          cases ts[i] <;> simp [enc]
        by_cases hc : enc ts[i] = V.non
        · rw [decide_eq_true hc] at hx ⊢
          refine iteT ⟨_, rfl, _, hD', ?_, fun b o eb hb => ?_, ?_⟩
          · rw [List.length_map]
            exact small1000 (Nat.le_trans (List.length_filter_le _ _) (by simp; omega))
          · rw [upd_ne (ne_of_none eb hD)]; exact kp b o eb hb
          · rw [upd_same, sel_yes nint (fun j => decide (ts[j]? = some none)) hr2 hx, Int.zero_add]; rfl
        · rw [decide_eq_false hc] at hx ⊢
          refine iteF ⟨kp, ?_⟩
          rw [hD', sel_no nint (fun j => decide (ts[j]? = some none)) hr2 hx]
    · rintro H' ⟨kp, hD'⟩
      refine q D H' hD kp ?_
      rw [hD']
      unfold stand
      rw [List.take_of_length_le (by simp)]
theorem ok_row (T : Tx K mg) {C : Addr} (cC : Cls K C) (nH : NoAttr K C "holders") (nT : NoAttr K C "takers") {fd : FuncData} {f : Addr} (F : Fun K "row" "Frames.row" s_House_row f fd) (m_need_begun : Met P w K mg base 3 C "need_begun" (spBeg C)) : FnG P w K mg base 4 f fd ["self", "frame"] (spRow C) := by
  refine FnG.of F sc_House_row (fun vs H Q E h => ?_) (fun cdv A outer s H vs Q E hr h => ?_)
  · obtain ⟨p, h, t, hs, ts, n, rfl, _⟩ := h; rfl
  · obtain ⟨p, h, t, hs, ts, n, rfl, fr, hn, q⟩ := h
    obtain ⟨⟨dx, fs, e, ff⟩, lh, lt, ne, wf⟩ := id fr
    have ws := wf.small
    refine ⟨_, pss_cons (ps_expr (gm m_need_begun (hr.mono (by decide)) takes0 (pv 0) (pa_cons (pv 1) (pa_nil))))
      (pss_cons (ps_set (i := 2) sc_House_row.nd rfl (by first | exact Or.inl rfl | exact Or.inr rfl) (pe_lst (pa_nil)))
      (pss_cons (ps_set (i := 3) sc_House_row.nd rfl (by first | exact Or.inl rfl | exact Or.inr rfl) (pv 1))
      (pss_cons (ps_while (passes_of rfl) (pt_cmpR op_notN (pv 3) (pe_non) (by first | exact nomark _ | rfl)) (pss_cons (ps_expr (kbm K PySem.F.plainAttrs_list PySem.F.slot_list_insert PySem.F.type_list_insert mt_insert (pv 2) (pa_cons (pe_int) (pa_cons (pv 3) (pa_nil)))))
      (pss_one (ps_set (i := 3) sc_House_row.nd rfl (by first | exact Or.inl rfl | exact Or.inr rfl) (pe_ix (kixL K) (kfld K (pv 0)) (pv 3) (fun _ _ => rfl))))))
      (pss_one (ps_ret (pv 2)))))), ?_⟩
    refine ⟨_, rfl, p, dx, fs, rfl, e, ff.no _ (by decide +kernel), _, rfl, p, h, t, hs, ts, n, rfl, fr, hn, by decide, fun l hl => ⟨_, rfl, ?_⟩⟩
    refine ⟨fun m σ H' => ∃ v tail, σ = [some (.ref p), some (nint n), some (.ref l), some v] ∧ Kp [] H H' ∧ H' l = some (.lst (tail.map nint)) ∧
      ((v = .non ∧ rowW hs n = tail) ∨ ∃ a : Nat, v = nint a ∧ a < hs.length ∧ m = a + 1 ∧ rowW hs n = rowW hs a ++ tail),
      ⟨n + 1, nint n, [], rfl, fun b o eb _ => (upd_ne (ne_of_none eb hl)).trans eb, upd_same, .inr ⟨n, rfl, hn, rfl, by simp⟩⟩, ?_⟩
    rintro m σ H' ⟨v, tail, rfl, kp, hL, hv⟩
    refine ⟨_, rfl, rfl, _, rfl, ?_⟩
    rcases hv with ⟨rfl, er⟩ | ⟨a, rfl, ha, rfl, er⟩
    · refine iteF ⟨_, rfl, q l H' hl kp ?_⟩
      rw [hL, er]
    · refine iteT ⟨fun σ' H'' => ∃ m', m' < a + 1 ∧ _, fun σ' H'' z => z, ?_⟩
      have hlen := row_len wf (n + 1) n (by omega) hn
      have hlt : tail.length ≤ 200 := by
        rw [er, List.length_append] at hlen; omega
      have hne : ∀ b o, H b = some o → b ≠ l := fun b o eb => ne_of_none eb hl
      refine ⟨_, rfl, .inl ⟨rfl, _, SqL.of hL⟩, _, rfl, l, _, 0, _, rfl, rfl, hL, (by rw [List.length_map]; exact small1000 (by omega)), by decide, by decide, ?_⟩
      have e1 : upd H' l (.lst ((tail.map nint).take (0 : Int).toNat ++ [nint a] ++ (tail.map nint).drop (0 : Int).toNat)) p = some (.ins C dx fs) := (upd_ne (hne _ _ e)).trans (kp _ _ e (by simp))
      have l1 : upd H' l (.lst ((tail.map nint).take (0 : Int).toNat ++ [nint a] ++ (tail.map nint).drop (0 : Int).toNat)) h = some (.lst (hs.map enc)) := (upd_ne (hne _ _ lh)).trans (kp _ _ lh (by simp))
      refine ⟨_, rfl, p, C, dx, fs, _, rfl, e1, cC, nH, ff.hh, _, rfl, h, _, _, enc hs[a], rfl, rfl, SqL.of l1, get_enc (List.getElem?_eq_getElem ha), ?_⟩
      by_cases h0 : a = 0
      · subst h0
        have eh : hs[0] = none := by have := wf.root; rw [List.getElem?_eq_getElem wf.pos] at this; exact Option.some.inj this
        refine ⟨0, by omega, _, 0 :: tail, rfl, fun b o eb hb => (upd_ne (hne _ _ eb)).trans (kp b o eb hb), upd_same, .inl ⟨by rw [eh]; rfl, ?_⟩⟩
        rw [er, row_root wf]; rfl
      · obtain ⟨j, ej, hj⟩ := wf.up a (by omega) ha
        have eh : hs[a] = some (j : Int) := by rw [List.getElem?_eq_getElem ha] at ej; exact Option.some.inj ej
        refine ⟨j + 1, by omega, _, a :: tail, rfl, fun b o eb hb => (upd_ne (hne _ _ eb)).trans (kp b o eb hb), upd_same, .inr ⟨j, by rw [eh]; rfl, by omega, rfl, ?_⟩⟩
        rw [er, row_up ej hj, List.append_assoc]; rfl
end

end Lw
namespace Lw
open PySem PySem.Spec L2 FG
open PyProof.Rows hiding St
/-! ### a house as plain data -/
structure Rm where
  (f o : Nat) (cells : List V) (c w : Addr)
def Rm.key (r : Rm) : List L2.Key := [.inl (r.f : Int), .inl (r.o : Int)]
def szs (l : List Rm) : Nat := (l.map fun r => r.cells.length).sum
structure HSt where
  (p h t gd fd sd hd : Addr) (hs ts : List (Option Int)) (rs : List Rm) (gs : List (Nat × Addr)) (most top : Nat)
def HSt.up (s : HSt) (r : Rm) : Bool := decide (s.ts[r.f]? = some none)
def HSt.giv (s : HSt) (f : Nat) : List Rm := s.rs.filter fun r => decide (r.f = f)
def HSt.here (s : HSt) : List Rm := s.rs.filter s.up
def HSt.used (s : HSt) : Nat := szs s.here
def HSt.fill (s : HSt) (f : Nat) : Nat := szs (s.giv f)
def HSt.gdL (s : HSt) : List (L2.Key × V) := s.gs.map fun x => (.inl (x.1 : Int), .ref x.2)
def HSt.fdL (s : HSt) : List (L2.Key × V) := s.gs.map fun x => (.inl (x.1 : Int), .int (s.fill x.1 : Int))
def HSt.sdL (s : HSt) : List (List L2.Key × V) := s.rs.map fun r => (r.key, .int (r.cells.length : Int))
def hdL (l : List Rm) : List (List L2.Key × V) := l.map fun r => (r.key, .ref r.c)
def HSt.foot (s : HSt) : List Addr := [s.p, s.h, s.t, s.gd, s.fd, s.sd, s.hd] ++ s.gs.map (·.2) ++ s.here.map (·.c)
/-- a cell's value: None, a number, a way that was given -/
def VOk (H : Hp) (rs : List Rm) (v : V) : Prop := v = .non ∨ (∃ z, v = .int z) ∨ ∃ r ∈ rs, ∃ q, v = .ref q ∧ H q = some (.tup [.int (r.f : Int), .int (r.o : Int)])
structure HoF (fs : List (Str × V)) (s : HSt) : Prop where
  most : fs.lookup ("most" : Str) = some (.int s.most)
  top : fs.lookup ("top" : Str) = some (.int s.top)
  gd : fs.lookup ("given" : Str) = some (.ref s.gd)
  fd : fs.lookup ("filled" : Str) = some (.ref s.fd)
  sd : fs.lookup ("sizes" : Str) = some (.ref s.sd)
  hd : fs.lookup ("held" : Str) = some (.ref s.hd)
  len : fs.length ≤ 20
structure HPl (s : HSt) : Prop where
  gn : (s.gs.map (·.1)).Nodup
  gm : ∀ r ∈ s.rs, ∃ a, (r.f, a) ∈ s.gs
  gle : s.gs.length ≤ s.rs.length
  kn : (s.rs.map fun r => (r.f, r.o)).Nodup
  ro : ∀ r ∈ s.rs, r.o + r.cells.length ≤ s.fill r.f
  sz : ∀ r ∈ s.rs, 1 ≤ r.cells.length ∧ r.cells.length ≤ 6
  fl : ∀ r ∈ s.rs, r.f < s.hs.length
  mo : s.most ≤ 1000
  tp : s.used ≤ s.top
  tm : s.top ≤ s.most
  sp : (s.gs.map (·.2) ++ s.here.map (·.c)).Nodup
  s1 : s.h ∉ s.gs.map (·.2) ++ s.here.map (·.c)
  s2 : s.t ∉ s.gs.map (·.2) ++ s.here.map (·.c)
  s3 : s.gd ≠ s.fd
  s4 : s.sd ≠ s.hd
/-- at s.p a house -/
structure HoAt (C : Addr) (H : Hp) (s : HSt) : Prop where
  ob : ∃ dx fs, H s.p = some (.ins C dx fs) ∧ FrF fs s.h s.t ∧ HoF fs s
  lh : H s.h = some (.lst (s.hs.map enc))
  lt : H s.t = some (.lst (s.ts.map enc))
  ne : s.h ≠ s.t
  wf : Wf s.hs s.ts
  gd : H s.gd = some (.dK s.gdL)
  fd : H s.fd = some (.dK s.fdL)
  sd : H s.sd = some (.dT s.sdL)
  hd : H s.hd = some (.dT (hdL s.here))
  gl : ∀ x ∈ s.gs, H x.2 = some (.lst ((s.giv x.1).map fun r => .ref r.w))
  cl : ∀ r ∈ s.here, H r.c = some (.lst r.cells)
  wl : ∀ r ∈ s.rs, H r.w = some (.tup [.int (r.f : Int), .int (r.o : Int)])
  vs : ∀ r ∈ s.here, ∀ v ∈ r.cells, VOk H s.rs v
  pl : HPl s
theorem HoAt.fr {C : Addr} {H : Hp} {s : HSt} (x : HoAt C H s) : FrAt C H s.p s.h s.t s.hs s.ts := by
  obtain ⟨dx, fs, e, ff, _⟩ := x.ob
  exact ⟨⟨dx, fs, e, ff⟩, x.lh, x.lt, x.ne, x.wf⟩
theorem VOk.kp {H H' : Hp} {rs : List Rm} {v : V} (x : VOk H rs v) (k : ∀ a xs, H a = some (.tup xs) → H' a = some (.tup xs)) : VOk H' rs v := by
  rcases x with e | e | ⟨r, hr, q, e, eq⟩
  · exact .inl e
  · exact .inr (.inl e)
  · exact .inr (.inr ⟨r, hr, q, e, k _ _ eq⟩)
theorem HoAt.kp {S : List Addr} {C : Addr} {H H' : Hp} {s : HSt} (x : HoAt C H s) (k : Kp S H H') (hF : ∀ a ∈ S, a ∉ s.foot) (hT : ∀ a ∈ S, ∀ xs, H a ≠ some (.tup xs)) : HoAt C H' s := by
  have m : ∀ {a o}, H a = some o → a ∈ s.foot → H' a = some o := fun {a o} e h => k a o e fun z => hF a z h
  have mt : ∀ a xs, H a = some (.tup xs) → H' a = some (.tup xs) := fun a xs e => k a _ e fun z => hT a z xs e
  obtain ⟨dx, fs, e, ff, hf⟩ := x.ob
  have f1 : ∀ a, a ∈ [s.p, s.h, s.t, s.gd, s.fd, s.sd, s.hd] → a ∈ s.foot := fun a h => List.mem_append_left _ (List.mem_append_left _ h)
  refine ⟨⟨dx, fs, m e (f1 _ (by simp)), ff, hf⟩, m x.lh (f1 _ (by simp)), m x.lt (f1 _ (by simp)), x.ne, x.wf, m x.gd (f1 _ (by simp)), m x.fd (f1 _ (by simp)), m x.sd (f1 _ (by simp)), m x.hd (f1 _ (by simp)),
    fun y hy => m (x.gl y hy) ?_, fun r hr => m (x.cl r hr) ?_, fun r hr => mt _ _ (x.wl r hr), fun r hr v hv => (x.vs r hr v hv).kp mt, x.pl⟩
  · exact List.mem_append_left _ (List.mem_append_right _ (List.mem_map.mpr ⟨y, hy, rfl⟩))
  · exact List.mem_append_right _ (List.mem_map.mpr ⟨r, hr, rfl⟩)
theorem HoAt.kp0 {C : Addr} {H H' : Hp} {s : HSt} (x : HoAt C H s) (k : Kp [] H H') : HoAt C H' s := x.kp k (fun _ z => by cases z) (fun _ z => by cases z)
/-! its tables -/
theorem valV_no {κ : Type} [DecidableEq κ] {kvs : List (κ × V)} {k : κ} (h : k ∉ kvs.map (·.1)) : valV kvs k = none := by
  induction kvs with
  | nil => rfl
  | cons p r ih =>
    have h2 : ¬ k = p.1 ∧ k ∉ r.map (·.1) := by simpa using h
    rw [valV_neg (fun z => h2.1 z.symm)]
    exact ih h2.2
theorem nd_map {α β : Type} {f : α → β} (hf : ∀ a b, f a = f b → a = b) {l : List α} (h : l.Nodup) : (l.map f).Nodup := by
  induction l with
  | nil => exact List.nodup_nil
  | cons a l ih =>
    rw [List.nodup_cons] at h
    rw [List.map_cons, List.nodup_cons]
    refine ⟨fun z => ?_, ih h.2⟩
    obtain ⟨b, hb, e⟩ := List.mem_map.mp z
    exact h.1 (hf _ _ e ▸ hb)
theorem HPl.gk {s : HSt} (x : HPl s) : (s.gdL.map (·.1)).Nodup := by
  have e : s.gdL.map (·.1) = (s.gs.map (·.1)).map fun f : Nat => (.inl (f : Int) : L2.Key) := by simp [HSt.gdL]
  rw [e]
  refine nd_map (fun a b h => ?_) x.gn
  injection h with h; omega
theorem HPl.fk {s : HSt} (x : HPl s) : (s.fdL.map (·.1)).Nodup := by
  have e : s.fdL.map (·.1) = s.gdL.map (·.1) := by simp [HSt.gdL, HSt.fdL]
  rw [e]; exact x.gk
theorem key_inj {r q : Rm} (h : r.key = q.key) : r.f = q.f ∧ r.o = q.o := by
  unfold Rm.key at h
  injection h with h1 h2
  injection h1 with h1
  injection h2 with h2 _
  injection h2 with h2
  omega
theorem HPl.kkn {s : HSt} (x : HPl s) {l : List Rm} (hl : l.Sublist s.rs) : (l.map Rm.key).Nodup := by
  have h1 := (hl.map fun r => (r.f, r.o)).nodup x.kn
  have e : l.map Rm.key = (l.map fun r => (r.f, r.o)).map fun z => ([.inl (z.1 : Int), .inl (z.2 : Int)] : List L2.Key) := by
    rw [List.map_map]; rfl
  rw [e]
  refine nd_map (fun a b h => ?_) h1
  injection h with h1 h2
  injection h1 with h1
  injection h2 with h2 _
  injection h2 with h2
  exact Prod.ext (by omega) (by omega)
theorem same_room {s : HSt} (x : HPl s) {r q : Rm} (hr : r ∈ s.rs) (hq : q ∈ s.rs) (e1 : r.f = q.f) (e2 : r.o = q.o) : r = q := by
  have key : ∀ {l : List Rm}, (l.map fun r => (r.f, r.o)).Nodup → r ∈ l → q ∈ l → r = q := by
    intro l
    induction l with
    | nil => intro _ h; cases h
    | cons a l ih =>
      intro h h1 h2
      rw [List.map_cons, List.nodup_cons] at h
      rcases List.mem_cons.mp h1 with z1 | z1
      · rcases List.mem_cons.mp h2 with z2 | z2
        · rw [z1, z2]
        · exact absurd (List.mem_map.mpr ⟨q, z2, by rw [← z1, e1, e2]⟩) h.1
      · rcases List.mem_cons.mp h2 with z2 | z2
        · exact absurd (List.mem_map.mpr ⟨r, z1, by rw [← z2, e1, e2]⟩) h.1
        · exact ih h.2 z1 z2
  exact key x.kn hr hq
theorem gv_in {s : HSt} (x : HPl s) {f : Nat} {a : Addr} (h : (f, a) ∈ s.gs) : valV s.gdL (.inl (f : Int)) = some (.ref a) :=
  val_nodup x.gk (.inl (f : Int), .ref a) (List.mem_map.mpr ⟨_, h, rfl⟩)
theorem fv_in {s : HSt} (x : HPl s) {f : Nat} {a : Addr} (h : (f, a) ∈ s.gs) : valV s.fdL (.inl (f : Int)) = some (.int (s.fill f : Int)) :=
  val_nodup x.fk (.inl (f : Int), .int (s.fill f : Int)) (List.mem_map.mpr ⟨_, h, rfl⟩)
theorem gv_no {s : HSt} {f : Nat} (h : f ∉ s.gs.map (·.1)) : valV s.gdL (.inl (f : Int)) = none := by
  refine valV_no fun z => h ?_
  simp only [HSt.gdL, List.map_map, List.mem_map] at z ⊢
  obtain ⟨y, hy, e⟩ := z
  exact ⟨y, hy, by injection e with e; omega⟩
theorem fv_no {s : HSt} {f : Nat} (h : f ∉ s.gs.map (·.1)) : valV s.fdL (.inl (f : Int)) = none := by
  refine valV_no fun z => h ?_
  simp only [HSt.fdL, List.map_map, List.mem_map] at z ⊢
  obtain ⟨y, hy, e⟩ := z
  exact ⟨y, hy, by injection e with e; omega⟩
theorem giv_no {s : HSt} (x : HPl s) {f : Nat} (h : f ∉ s.gs.map (·.1)) : s.giv f = [] := by
  unfold HSt.giv
  rw [List.filter_eq_nil_iff]
  intro r hr z
  obtain ⟨a, ha⟩ := x.gm r hr
  have e := of_decide_eq_true z
  exact h (List.mem_map.mpr ⟨_, ha, e⟩)
theorem fill_no {s : HSt} (x : HPl s) {f : Nat} (h : f ∉ s.gs.map (·.1)) : s.fill f = 0 := by
  unfold HSt.fill; rw [giv_no x h]; rfl
theorem sdL_keys (s : HSt) : s.sdL.map (·.1) = s.rs.map Rm.key := by simp [HSt.sdL]
theorem hdL_keys (l : List Rm) : (hdL l).map (·.1) = l.map Rm.key := by simp [hdL]
theorem sv_in {s : HSt} (x : HPl s) {r : Rm} (h : r ∈ s.rs) : valV s.sdL r.key = some (.int (r.cells.length : Int)) :=
  val_nodup (by rw [sdL_keys]; exact x.kkn (List.Sublist.refl _)) (r.key, .int (r.cells.length : Int)) (List.mem_map.mpr ⟨_, h, rfl⟩)
theorem sv_no {s : HSt} {f o : Nat} (h : ∀ r ∈ s.rs, ¬ (r.f = f ∧ r.o = o)) : valV s.sdL [.inl (f : Int), .inl (o : Int)] = none := by
  refine valV_no fun z => ?_
  rw [sdL_keys, List.mem_map] at z
  obtain ⟨r, hr, e⟩ := z
  refine h r hr ?_
  unfold Rm.key at e
  injection e with e1 e2
  injection e1 with e1
  injection e2 with e2 _
  injection e2 with e2
  omega
theorem here_sub (s : HSt) : s.here.Sublist s.rs := List.filter_sublist
theorem hv_in {s : HSt} (x : HPl s) {l : List Rm} (hl : l.Sublist s.rs) {r : Rm} (h : r ∈ l) : valV (hdL l) r.key = some (.ref r.c) :=
  val_nodup (by rw [hdL_keys]; exact x.kkn hl) (r.key, .ref r.c) (List.mem_map.mpr ⟨_, h, rfl⟩)
theorem hv_no {s : HSt} (x : HPl s) {r : Rm} (hr : r ∈ s.rs) (h : s.up r = false) : valV (hdL s.here) r.key = none := by
  refine valV_no fun z => ?_
  rw [hdL_keys, List.mem_map] at z
  obtain ⟨q, hq, e⟩ := z
  obtain ⟨e1, e2⟩ := key_inj e
  have hq2 := List.mem_filter.mp hq
  have := same_room x hq2.1 hr e1 e2
  rw [this] at hq2
  rw [hq2.2] at h; cases h
theorem mem_here {s : HSt} {r : Rm} (hr : r ∈ s.rs) (h : s.up r = true) : r ∈ s.here := List.mem_filter.mpr ⟨hr, h⟩
theorem drop_hd {l : List Rm} (k : List L2.Key) : dropK (hdL l) k = hdL (l.filter fun r => decide (r.key ≠ k)) := by
  unfold dropK hdL
  rw [List.filter_map]; rfl

end Lw
namespace Lw
open PySem PySem.Spec L2 FG
open PyProof.Rows hiding St
/-! ### its methods that change nothing -/
abbrev CH (K : PySem.W.Frag) : Addr := He.ga K "House"
def RoomOut (K : PySem.W.Frag) (H : Hp) (s : HSt) (q : Addr) (a b : Nat) (Y : Rm → Hp → Prop) (E : XK) : Prop :=
  (∀ r ∈ s.rs, r.f = a → r.o = b → s.up r = true → ∀ H', Kp [] H H' → Y r H') ∧
  (∀ r ∈ s.rs, r.f = a → r.o = b → s.up r = false → ∀ i, s.ts[a]? = some (some i) → ∀ d H', Kp [] H H' → H' d = some (.xd [("by", .int i), ("found", .ref q)]) → E (.ref (He.ga K "Gone")) (some d) H') ∧
  ((∀ r ∈ s.rs, ¬ (r.f = a ∧ r.o = b)) → ∀ d H', Kp [] H H' → H' d = some (.xd [("found", .ref q)]) → E (.ref (He.ga K "NoWay")) (some d) H')
def spRoomN (K : PySem.W.Frag) : Sp := fun vs H Q E => ∃ s q, ∃ a b : Nat, vs = [.ref s.p, .ref q] ∧ HoAt (CH K) H s ∧ H q = some (.tup [.int (a : Int), .int (b : Int)]) ∧ RoomOut K H s q a b (fun _ H' => Q .non H') E
/-- a room that stands, and one of its cells -/
def CellOut (K : PySem.W.Frag) (H : Hp) (s : HSt) (q : Addr) (a b : Nat) (k : Int) (Y : Rm → Hp → Prop) (E : XK) : Prop :=
  RoomOut K H s q a b (fun r H' => (0 ≤ k ∧ k < r.cells.length → Y r H') ∧ (¬ (0 ≤ k ∧ k < r.cells.length) → ∀ d H2, Kp [] H' H2 → H2 d = some (.xd [("found", .int k)]) → E (.ref (He.ga K "NoCell")) (some d) H2)) E
def spCellN (K : PySem.W.Frag) : Sp := fun vs H Q E => ∃ s q, ∃ a b : Nat, ∃ k : Int, vs = [.ref s.p, .ref q, .int k] ∧ HoAt (CH K) H s ∧ H q = some (.tup [.int (a : Int), .int (b : Int)]) ∧ CellOut K H s q a b k (fun _ H' => Q .non H') E
def spGet (K : PySem.W.Frag) : Sp := fun vs H Q E => ∃ s q, ∃ a b : Nat, ∃ k : Int, vs = [.ref s.p, .ref q, .int k] ∧ HoAt (CH K) H s ∧ H q = some (.tup [.int (a : Int), .int (b : Int)]) ∧ CellOut K H s q a b k (fun r H' => ∀ v, r.cells[k.toNat]? = some v → Q v H') E
def spSize (K : PySem.W.Frag) : Sp := fun vs H Q E => ∃ s q, ∃ a b : Nat, vs = [.ref s.p, .ref q] ∧ HoAt (CH K) H s ∧ H q = some (.tup [.int (a : Int), .int (b : Int)]) ∧ RoomOut K H s q a b (fun r H' => Q (.int (r.cells.length : Int)) H') E
def spCells (K : PySem.W.Frag) : Sp := fun vs H Q E => ∃ s q, ∃ a b : Nat, vs = [.ref s.p, .ref q] ∧ HoAt (CH K) H s ∧ H q = some (.tup [.int (a : Int), .int (b : Int)]) ∧
  RoomOut K H s q a b (fun r H1 => ∀ l H', H1 l = none → Kp [] H1 H' → H' l = some (.lst r.cells) → Q (.ref l) H') E
def spRooms (K : PySem.W.Frag) : Sp := fun vs H Q _ => ∃ s, ∃ n : Nat, vs = [.ref s.p, nint n] ∧ HoAt (CH K) H s ∧ s.ts[n]? = some none ∧ ∀ l H', H l = none → Kp [] H H' → H' l = some (.lst ((s.giv n).map fun r => .ref r.w)) → Q (.ref l) H'
/-- at p an instance whose table of held cells stands at hd -/
def UsedAt (C : Addr) (H : Hp) (p hd : Addr) (L : List Rm) : Prop := (∃ dx fs, H p = some (.ins C dx fs) ∧ fs.lookup ("held" : Str) = some (.ref hd)) ∧ H hd = some (.dT (hdL L)) ∧ (∀ r ∈ L, H r.c = some (.lst r.cells)) ∧ L.length ≤ 2000
theorem szs_len {l : List Rm} (h : ∀ r ∈ l, 1 ≤ r.cells.length) : l.length ≤ szs l := by
  unfold szs
  induction l with
  | nil => simp
  | cons r l ih =>
    have h1 := h r (by simp)
    have h2 := ih fun x hx => h x (by simp [hx])
    simp; omega
theorem HoAt.usedAt {C : Addr} {H : Hp} {s : HSt} (x : HoAt C H s) : UsedAt C H s.p s.hd s.here := by
  obtain ⟨dx, fs, e, ff, hf⟩ := x.ob
  refine ⟨⟨dx, fs, e, hf.hd⟩, x.hd, x.cl, ?_⟩
  have h1 : s.here.length ≤ s.used := szs_len fun r hr => (x.pl.sz r (List.mem_filter.mp hr).1).1
  have := x.pl.tp; have := x.pl.tm; have := x.pl.mo
  omega
def spUsed (K : PySem.W.Frag) : Sp := fun vs H Q _ => ∃ (p hd : Addr) (L : List Rm), vs = [.ref p] ∧ UsedAt (CH K) H p hd L ∧ ∀ H', Kp [] H H' → Q (.int (szs L : Int)) H'
def spLeft (K : PySem.W.Frag) : Sp := fun vs H Q _ => ∃ s : HSt, vs = [.ref s.p] ∧ HoAt (CH K) H s ∧ ∀ H', Kp [] H H' → Q (.int ((s.most : Int) - s.used)) H'
/-- of None, a number, a pair of numbers from nought on -/
def spIsVal (K : PySem.W.Frag) : Sp := fun vs H Q _ => ∃ (s : HSt) (v : V), vs = [.ref s.p, v] ∧ HoAt (CH K) H s ∧ ((VOk H s.rs v ∧ ∀ H', Kp [] H H' → Q (.bl true) H') ∨
  ∃ q, ∃ a b : Nat, v = .ref q ∧ H q = some (.tup [.int (a : Int), .int (b : Int)]) ∧ (∀ r ∈ s.rs, ¬ (r.f = a ∧ r.o = b)) ∧ ∀ H', Kp [] H H' → Q (.bl false) H')
theorem way_th {H : Hp} {q : Addr} {a b : Nat} (e : H q = some (.tup [.int (a : Int), .int (b : Int)])) : Th H (.ref q) ∧ pairV H (.ref q) = true := by
  refine ⟨⟨.tup e, fun xs h => ?_⟩, ?_⟩
  · rw [tupV_ref e] at h
    cases h
    refine ⟨by simp, fun x hx => ?_⟩
    simp only [List.mem_cons, List.not_mem_nil, or_false] at hx
    rcases hx with rfl | rfl
    · exact .int _
    · exact .int _
  · unfold pairV
    rw [tupV_ref e]
    simp [pairL, posV]
theorem atI_last {α : Type} {xs : List α} {i : Nat} {x : α} (h : xs[i]? = some x) : atI xs (i : Int) = some x := atI_nat h
section
variable {P : Program} {w : World} {K : PySem.W.Frag} {mg : Str → Option Value} {base : Heap}
theorem ok_room (T : Tx K mg) {fd : FuncData} {f : Addr} (F : Fun K "need_room" "House.need_room" s_House_need_room f fd) (c_is_pair : Cal P w K mg base 2 "is_pair" spPair) (r_NoWay : Rai P w K mg base "NoWay" (He.ga K "NoWay") ["found"])
    (r_Gone : Rai P w K mg base "Gone" (He.ga K "Gone") ["found", "by"]) : FnG P w K mg base 3 f fd ["self", "way"] (spRoomN K) := by
  refine FnG.of F sc_House_need_room (fun vs H Q E h => ?_) (fun cdv A outer s H vs Q E hr h => ?_)
  · obtain ⟨s, q, a, b, rfl, _⟩ := h; rfl
  · obtain ⟨s, q, a, b, rfl, ho, hq, o1, o2, o3⟩ := h
    obtain ⟨dx, fs, e, ff, hf⟩ := ho.ob
    obtain ⟨th, tp⟩ := way_th hq
    refine ⟨_, pss_cons (ps_if (PW.pt (pw_or (pt_not (pt_val (gc c_is_pair (hr.mono (by decide)) tkE (pa_cons (pv 1) (pa_nil))))) (pw_or1 (pt_cmp (pc_dnotin hr.hu (pv 1) (kfld K (pv 0))))))) (pss_one (ps_rais r_NoWay (hr.mono (by decide)) tkE (pa_cons (pv 1) (pa_nil)))) (pss_nil))
      (pss_one (ps_if (pt_cmp (pc_dnotin hr.hu (pv 1) (kfld K (pv 0)))) (pss_one (ps_rais r_Gone (hr.mono (by decide)) tkE (pa_cons (pv 1) (pa_cons (pe_ix (kixL K) (kfld K (pv 0)) (pe_ix (kixT K) (pv 1) (pe_int) (fun _ _ => rfl)) (fun _ _ => rfl)) (pa_nil))))) (pss_nil))), ?_⟩
    refine ⟨_, rfl, .ref q, rfl, th, fun H1 k1 => ⟨_, rfl, ?_⟩⟩
    have ho1 := ho.kp0 k1
    have e1 := k1 _ _ e (by simp)
    have hq1 := k1 _ _ hq (by simp)
    rw [tp]
    refine iteF ⟨_, rfl, _, rfl, s.p, CH K, dx, fs, _, rfl, e1, T.c_House, T.n_House_sizes, hf.sd, s.sd, _, rfl, DGet.t (k := [.inl (a : Int), .inl (b : Int)]) ho1.sd hq1, _, rfl, ?_⟩
    by_cases hx : ∃ r ∈ s.rs, r.f = a ∧ r.o = b
    · obtain ⟨r, hr2, ea, eb⟩ := hx
      have ek : ([.inl (a : Int), .inl (b : Int)] : List L2.Key) = r.key := by unfold Rm.key; rw [ea, eb]
      rw [ek, sv_in ho.pl hr2]
      refine iteF ⟨_, rfl, _, rfl, s.p, CH K, dx, fs, _, rfl, e1, T.c_House, T.n_House_held, hf.hd, s.hd, _, rfl, DGet.t (k := [.inl (a : Int), .inl (b : Int)]) ho1.hd hq1, _, rfl, ?_⟩
      rw [ek]
      cases hu : s.up r with
      | true =>
        rw [hv_in ho.pl (here_sub s) (mem_here hr2 hu)]
        exact iteF (o1 r hr2 ea eb hu H1 k1)
      | false =>
        rw [hv_no ho.pl hr2 hu]
        have hfl := ho.pl.fl r hr2
        have wl := ho.wf.len
        have hta : a < s.ts.length := by omega
        obtain ⟨i, hi⟩ : ∃ i, s.ts[a]? = some (some i) := by
          rw [List.getElem?_eq_getElem hta]
          cases hc : s.ts[a] with
          | none =>
            unfold HSt.up at hu
            rw [ea, List.getElem?_eq_getElem hta, hc] at hu
            simp at hu
          | some i => exact ⟨i, rfl⟩
        refine iteT ⟨_, rfl, _, rfl, s.p, CH K, dx, fs, _, rfl, e1, T.c_House, T.n_House_takers, ff.tt, _, rfl, q, _, _, _, rfl, rfl, SqT.of hq1, atI_nat (j := 0) rfl, s.t, _, _, _, rfl, rfl, SqL.of ho1.lt, get_enc hi, rfl, (by show 2 ≤ 10; decide), fun d hd => ?_⟩
        exact o2 r hr2 ea eb hu i hi d _ (k1.new hd) upd_same
    · have hno : ∀ r ∈ s.rs, ¬ (r.f = a ∧ r.o = b) := fun r hr2 hh => hx ⟨r, hr2, hh⟩
      rw [sv_no hno]
      exact iteT ⟨_, rfl, rfl, (by show 1 ≤ 10; decide), fun d hd => o3 hno d _ (k1.new hd) upd_same⟩
theorem ok_cellN (T : Tx K mg) {fd : FuncData} {f : Addr} (F : Fun K "need_cell" "House.need_cell" s_House_need_cell f fd) (m_need_room : Met P w K mg base 3 (CH K) "need_room" (spRoomN K)) (c_is_whole : Cal P w K mg base 2 "is_whole" spWhole)
    (r_NoCell : Rai P w K mg base "NoCell" (He.ga K "NoCell") ["found"]) : FnG P w K mg base 4 f fd ["self", "way", "k"] (spCellN K) := by
  refine FnG.of F sc_House_need_cell (fun vs H Q E h => ?_) (fun cdv A outer s H vs Q E hr h => ?_)
  · obtain ⟨s, q, a, b, k, rfl, _⟩ := h; rfl
  · obtain ⟨s, q, a, b, k, rfl, ho, hq, o1, o2, o3⟩ := h
    obtain ⟨dx, fs, e, ff, hf⟩ := ho.ob
    refine ⟨_, pss_cons (ps_expr (gm m_need_room (hr.mono (by decide)) tkE (pv 0) (pa_cons (pv 1) (pa_nil))))
      (pss_one (ps_if (pt_not (pt_val (gc c_is_whole (hr.mono (by decide)) tkE (pa_cons (pv 2) (pa_cons (pe_int) (pa_cons (pe_op op_sub (pe_dget hr.hu (kfld K (pv 0)) (pv 1) (fun _ _ => rfl)) (pe_int)) (pa_nil))))))) (pss_one (ps_rais r_NoCell (hr.mono (by decide)) tkE (pa_cons (pv 2) (pa_nil)))) (pss_nil))), ?_⟩
    refine ⟨_, rfl, s.p, dx, fs, rfl, e, ff.no _ (by decide +kernel), _, rfl, s, q, a, b, rfl, ho, hq, fun r hr2 ea eb hu H1 k1 => ?_, o2, o3⟩
    have ho1 := ho.kp0 k1
    have e1 := k1 _ _ e (by simp)
    have hq1 := k1 _ _ hq (by simp)
    have ek : ([.inl (a : Int), .inl (b : Int)] : List L2.Key) = r.key := by unfold Rm.key; rw [ea, eb]
    obtain ⟨y1, y2⟩ := o1 r hr2 ea eb hu H1 k1
    refine ⟨_, rfl, _, rfl, s.p, CH K, dx, fs, _, rfl, e1, T.c_House, T.n_House_sizes, hf.sd, _, rfl, s.sd, _, rfl, by rw [← sv_in ho.pl hr2, ← ek]; exact DGet.t (k := [.inl (a : Int), .inl (b : Int)]) ho1.sd hq1, _, _, rfl, rfl, k, 0, _, rfl, _, rfl, ?_⟩
    by_cases hk : 0 ≤ k ∧ k < r.cells.length
    · have z : decide ((0 : Int) ≤ k ∧ k ≤ (r.cells.length : Int) - 1) = true := decide_eq_true ⟨hk.1, by omega⟩
      rw [z]
      exact iteF (y1 hk)
    · have z : decide ((0 : Int) ≤ k ∧ k ≤ (r.cells.length : Int) - 1) = false := decide_eq_false fun c => hk ⟨c.1, by omega⟩
      rw [z]
      exact iteT ⟨_, rfl, rfl, (by show 1 ≤ 10; decide), fun d hd => y2 hk d _ (Kp.refl.new hd) upd_same⟩
theorem ok_get (T : Tx K mg) {fd : FuncData} {f : Addr} (F : Fun K "get" "House.get" s_House_get f fd) (m_need_cell : Met P w K mg base 4 (CH K) "need_cell" (spCellN K)) : FnG P w K mg base 5 f fd ["self", "way", "k"] (spGet K) := by
  refine FnG.of F sc_House_get (fun vs H Q E h => ?_) (fun cdv A outer s H vs Q E hr h => ?_)
  · obtain ⟨s, q, a, b, k, rfl, _⟩ := h; rfl
  · obtain ⟨s, q, a, b, k, rfl, ho, hq, o1, o2, o3⟩ := h
    obtain ⟨dx, fs, e, ff, hf⟩ := ho.ob
    refine ⟨_, pss_cons (ps_expr (gm m_need_cell (hr.mono (by decide)) tkE (pv 0) (pa_cons (pv 1) (pa_cons (pv 2) (pa_nil)))))
      (pss_one (ps_ret (pe_ix (kixL K) (pe_dget hr.hu (kfld K (pv 0)) (pv 1) (fun _ _ => rfl)) (pv 2) (fun _ _ => rfl)))), ?_⟩
    refine ⟨_, rfl, s.p, dx, fs, rfl, e, ff.no _ (by decide +kernel), _, rfl, _, rfl, s, q, a, b, k, rfl, ho, hq, fun r hr2 ea eb hu H1 k1 => ⟨fun hk => ?_, (o1 r hr2 ea eb hu H1 k1).2⟩, o2, o3⟩
    have ho1 := ho.kp0 k1
    have e1 := k1 _ _ e (by simp)
    have hq1 := k1 _ _ hq (by simp)
    have hh := mem_here hr2 hu
    have ek : ([.inl (a : Int), .inl (b : Int)] : List L2.Key) = r.key := by unfold Rm.key; rw [ea, eb]
    obtain ⟨j, rfl⟩ : ∃ j : Nat, k = j := ⟨k.toNat, by omega⟩
    have hj : j < r.cells.length := by omega
    refine ⟨_, rfl, s.p, CH K, dx, fs, _, rfl, e1, T.c_House, T.n_House_held, hf.hd, _, rfl, s.hd, _, rfl, by rw [← hv_in ho.pl (here_sub s) hh, ← ek]; exact DGet.t (k := [.inl (a : Int), .inl (b : Int)]) ho1.hd hq1, _, rfl, r.c, _, _, _, rfl, rfl, SqL.of (ho1.cl r hh), atI_nat (List.getElem?_eq_getElem hj), ?_⟩
    exact (o1 r hr2 ea eb hu H1 k1).1 hk _ (by rw [Int.toNat_natCast]; exact List.getElem?_eq_getElem hj)
theorem ok_size (T : Tx K mg) {fd : FuncData} {f : Addr} (F : Fun K "size" "House.size" s_House_size f fd) (m_need_room : Met P w K mg base 3 (CH K) "need_room" (spRoomN K)) : FnG P w K mg base 4 f fd ["self", "way"] (spSize K) := by
  refine FnG.of F sc_House_size (fun vs H Q E h => ?_) (fun cdv A outer s H vs Q E hr h => ?_)
  · obtain ⟨s, q, a, b, rfl, _⟩ := h; rfl
  · obtain ⟨s, q, a, b, rfl, ho, hq, o1, o2, o3⟩ := h
    obtain ⟨dx, fs, e, ff, hf⟩ := ho.ob
    refine ⟨_, pss_cons (ps_expr (gm m_need_room (hr.mono (by decide)) tkE (pv 0) (pa_cons (pv 1) (pa_nil))))
      (pss_one (ps_ret (pe_dget hr.hu (kfld K (pv 0)) (pv 1) (fun _ _ => rfl)))), ?_⟩
    refine ⟨_, rfl, s.p, dx, fs, rfl, e, ff.no _ (by decide +kernel), _, rfl, s, q, a, b, rfl, ho, hq, fun r hr2 ea eb hu H1 k1 => ?_, o2, o3⟩
    have ho1 := ho.kp0 k1
    have ek : ([.inl (a : Int), .inl (b : Int)] : List L2.Key) = r.key := by unfold Rm.key; rw [ea, eb]
    exact ⟨_, rfl, s.p, CH K, dx, fs, _, rfl, k1 _ _ e (by simp), T.c_House, T.n_House_sizes, hf.sd, _, rfl, s.sd, _, rfl, by rw [← sv_in ho.pl hr2, ← ek]; exact DGet.t (k := [.inl (a : Int), .inl (b : Int)]) ho1.sd (k1 _ _ hq (by simp)), o1 r hr2 ea eb hu H1 k1⟩
theorem ok_cells (T : Tx K mg) {fd : FuncData} {f : Addr} (F : Fun K "cells" "House.cells" s_House_cells f fd) (m_need_room : Met P w K mg base 3 (CH K) "need_room" (spRoomN K)) : FnG P w K mg base 4 f fd ["self", "way"] (spCells K) := by
  refine FnG.of F sc_House_cells (fun vs H Q E h => ?_) (fun cdv A outer s H vs Q E hr h => ?_)
  · obtain ⟨s, q, a, b, rfl, _⟩ := h; rfl
  · obtain ⟨s, q, a, b, rfl, ho, hq, o1, o2, o3⟩ := h
    obtain ⟨dx, fs, e, ff, hf⟩ := ho.ob
    refine ⟨_, pss_cons (ps_expr (gm m_need_room (hr.mono (by decide)) tkE (pv 0) (pa_cons (pv 1) (pa_nil))))
      (pss_one (ps_ret (pe_callTy (klist K) (by rfl) T.z_list (by decide +kernel) (pa_cons (pe_dget hr.hu (kfld K (pv 0)) (pv 1) (fun _ _ => rfl)) (pa_nil))))), ?_⟩
    refine ⟨_, rfl, s.p, dx, fs, rfl, e, ff.no _ (by decide +kernel), _, rfl, s, q, a, b, rfl, ho, hq, fun r hr2 ea eb hu H1 k1 => ?_, o2, o3⟩
    have ho1 := ho.kp0 k1
    have hh := mem_here hr2 hu
    have ek : ([.inl (a : Int), .inl (b : Int)] : List L2.Key) = r.key := by unfold Rm.key; rw [ea, eb]
    exact ⟨_, rfl, s.p, CH K, dx, fs, _, rfl, k1 _ _ e (by simp), T.c_House, T.n_House_held, hf.hd, _, rfl, s.hd, _, rfl, by rw [← hv_in ho.pl (here_sub s) hh, ← ek]; exact DGet.t (k := [.inl (a : Int), .inl (b : Int)]) ho1.hd (k1 _ _ hq (by simp)), r.c, _, rfl, .inl (SqL.of (ho1.cl r hh)), fun l hl => o1 r hr2 ea eb hu H1 k1 l _ hl (Kp.refl.new hl) upd_same⟩
theorem ok_rooms (T : Tx K mg) {fd : FuncData} {f : Addr} (F : Fun K "rooms" "House.rooms" s_House_rooms f fd) (m_need_standing : Met P w K mg base 4 (CH K) "need_standing" (spStd (CH K))) : FnG P w K mg base 5 f fd ["self", "frame"] (spRooms K) := by
  refine FnG.of F sc_House_rooms (fun vs H Q E h => ?_) (fun cdv A outer s H vs Q E hr h => ?_)
  · obtain ⟨s, n, rfl, _⟩ := h; rfl
  · obtain ⟨s, n, rfl, ho, hn, q⟩ := h
    obtain ⟨dx, fs, e, ff, hf⟩ := ho.ob
    refine ⟨_, pss_cons (ps_expr (gm m_need_standing (hr.mono (by decide)) takes0 (pv 0) (pa_cons (pv 1) (pa_nil))))
      (pss_one (ps_ret (pe_callTy (klist K) (by rfl) T.z_list (by decide +kernel) (pa_cons (pe_dget2 hr.hu (kfld K (pv 0)) (pv 1) (pe_lst (pa_nil)) ⟨rfl, rfl, rfl, rfl⟩) (pa_nil))))), ?_⟩
    refine ⟨_, rfl, s.p, dx, fs, rfl, e, ff.no _ (by decide +kernel), _, rfl, s.p, s.h, s.t, s.hs, s.ts, n, rfl, ho.fr, hn, ?_⟩
    refine ⟨_, rfl, s.p, CH K, dx, fs, _, rfl, e, T.c_House, T.n_House_given, hf.gd, s.gd, rfl, .inl ⟨_, .inl ho.gd⟩, _, rfl, by decide, fun l0 hl0 => ?_⟩
    have k0 := (Kp.refl (S := []) (H := H)).new (o := .lst []) hl0
    have e0 : L2.upd H l0 (.lst []) l0 = some (.lst []) := upd_same
    generalize L2.upd H l0 (.lst []) = H1 at *
    have ho1 := ho.kp0 k0
    have pl := ho.pl
    refine ⟨_, DGet.k (k := .inl (n : Int)) ho1.gd, ?_⟩
    by_cases hg : n ∈ s.gs.map (·.1)
    · obtain ⟨⟨f', a⟩, hx, rfl⟩ := List.mem_map.mp hg
      rw [gv_in pl hx]
      exact ⟨a, _, rfl, .inl (SqL.of (ho1.gl _ hx)), fun l hl => q l _ (k0.free hl) (k0.new hl) upd_same⟩
    · rw [gv_no hg]
      refine ⟨l0, [], rfl, .inl (SqL.of e0), fun l hl => q l _ (k0.free hl) (k0.new hl) ?_⟩
      rw [upd_same, giv_no pl hg]; rfl
theorem ok_used (T : Tx K mg) {fd : FuncData} {f : Addr} (F : Fun K "used" "House.used" s_House_used f fd) : FnG P w K mg base 1 f fd ["self"] (spUsed K) := by
  refine FnG.of F sc_House_used (fun vs H Q E h => ?_) (fun cdv A outer s H vs Q E hr h => ?_)
  · obtain ⟨p, hd, L, rfl, _⟩ := h; rfl
  · obtain ⟨p, hd, L, rfl, ⟨⟨dx, fs, e, hfh⟩, ehd, ecl, hl1⟩, q⟩ := h
    refine ⟨_, pss_one (ps_ret (pe_callB (ksum K) (by rfl) T.z_sum (by decide +kernel) (pa_cons (pe_lock (pe_lc (own := [("cells", 1)]) (g := gName 1) (tt := tYes) rfl sc_House_used.nd (pi_valuesT (kfld K (pv 0))) (blkOk_by (own := [("cells", 1)]) (N := ["self", "cells"]) (sc := defScope s_House_used) (by decide +kernel)) (fun _ _ _ _ _ => pg_name (i := 1) sc_House_used.nd rfl (by first | exact Or.inl rfl | exact Or.inr rfl)) (fun _ _ _ _ _ => by exact pts_nil) (fun _ _ _ _ _ => by exact pe_callB (klen K) (by rfl) T.z_len PySem.boot_len (pa_cons (pv 1) (pa_nil))))) (pa_nil)))), ?_⟩
    refine ⟨hd, _, ehd, trivial, fun od => ?_⟩
    have np : p ≠ hd := ne_of e ehd (fun z => by cases z)
    refine ⟨_, rfl, p, CH K, dx, fs, _, rfl, (upd_ne np).trans e, T.c_House, T.n_House_held, hfh, hd, od, _, rfl, upd_same, fun D hD => ?_⟩
    have hDH : H D = none := by
      by_cases c : D = hd
      · rw [c, upd_same] at hD; cases hD
      · rw [upd_ne c] at hD; exact hD
    have nD : D ≠ hd := fun c => by rw [c, upd_same] at hD; cases hD
    refine lc_it walk_valsT (fun i H2 => (∀ b o, H b = some o → b ≠ hd → H2 b = some o) ∧ H2 hd = some (.frz od (.dT (hdL L))) ∧ H2 D = some (.lst ((L.take i).map fun r => V.int (r.cells.length : Int))))
      ⟨fun b o eb hb => ?_, ?_, upd_same⟩ (fun i H2 _ p => p.2.1) ?_ ?_
    · rw [upd_ne (ne_of_none eb hDH), upd_ne hb]; exact eb
    · rw [upd_ne nD.symm, upd_same]
    · rintro i x H3 H2 hi ⟨k2, e2, eD⟩ ⟨rfl, key, hx⟩
      have hi2 : i < L.length := by simpa [hdL] using hi
      have hr2 : L[i]? = some L[i] := List.getElem?_eq_getElem hi2
      obtain rfl : x = .ref L[i].c := by
        unfold hdL at hx
        rw [List.getElem?_map, hr2] at hx
        have hx2 : (L[i].key, V.ref L[i].c) = (key, x) := Option.some.inj hx
        exact (congrArg Prod.snd hx2).symm
      have hm : L[i] ∈ L := List.getElem_mem hi2
      have ec := ecl _ hm
      have nc : L[i].c ≠ hd := ne_of ec ehd (fun z => by cases z)
      refine ⟨rfl, _, rfl, _, _, rfl, .inl (SqL.of (k2 _ _ ec nc)), _, eD, ?_, fun b o eb hb => (upd_ne (ne_of_none eb hDH)).trans (k2 b o eb hb), (upd_ne nD.symm).trans e2, ?_⟩
      · rw [List.length_map, List.length_take]
        exact Nat.lt_of_le_of_lt (m := 2000) (by omega) (by decide)
      · rw [upd_same, List.take_succ_eq_append_getElem hi2, List.map_append]; rfl
    · rintro H2 ⟨k2, e2, eD⟩
      have hn : (hdL L).length = L.length := by simp [hdL]
      rw [hn, List.take_length] at eD
      refine ⟨e2, D, L.map fun r => (r.cells.length : Int), rfl, SqL.of ((upd_ne nD).trans (eD.trans (by rw [List.map_map]; rfl))), ?_⟩
      have es : (L.map fun r => (r.cells.length : Int)).sum = (szs L : Int) := by
        unfold szs
        generalize L = l
        induction l with
        | nil => rfl
        | cons r l ih => simp only [List.map_cons, List.sum_cons, ih]; omega
      rw [es]
      refine q _ fun b o eb _ => ?_
      by_cases c : b = hd
      · subst c; rw [upd_same, ← ehd, eb]
      · rw [upd_ne c]; exact k2 b o eb c
theorem ok_left (T : Tx K mg) {fd : FuncData} {f : Addr} (F : Fun K "left" "House.left" s_House_left f fd) (m_used : Met P w K mg base 1 (CH K) "used" (spUsed K)) : FnG P w K mg base 2 f fd ["self"] (spLeft K) := by
  refine FnG.of F sc_House_left (fun vs H Q E h => ?_) (fun cdv A outer s H vs Q E hr h => ?_)
  · obtain ⟨s, rfl, _⟩ := h; rfl
  · obtain ⟨s, rfl, ho, q⟩ := h
    obtain ⟨dx, fs, e, ff, hf⟩ := ho.ob
    refine ⟨_, pss_one (ps_ret (pe_op op_sub (kfld K (pv 0)) (gm0 m_used (hr.mono (by decide)) takes0 (pv 0)))), ?_⟩
    exact ⟨_, rfl, s.p, CH K, dx, fs, _, rfl, e, T.c_House, T.n_House_most, hf.most, _, rfl, s.p, dx, fs, rfl, e, ff.no _ (by decide +kernel), s.p, s.hd, s.here, rfl, ho.usedAt, fun H1 k1 => ⟨_, _, rfl, rfl, q H1 k1⟩⟩
end

end Lw
namespace Lw
open PySem PySem.Spec L2 FG
open PyProof.Rows hiding St
/-! ### a room made, a cell put: the state behind -/
def HSt.gsPut (s : HSt) (f : Nat) (a : Addr) : List (Nat × Addr) := if f ∈ s.gs.map (·.1) then s.gs.map (fun x => if x.1 = f then (f, a) else x) else s.gs ++ [(f, a)]
def HSt.made (s : HSt) (f k : Nat) (a c w : Addr) : HSt := { s with rs := s.rs ++ [⟨f, s.fill f, List.replicate k .non, c, w⟩], gs := s.gsPut f a, top := max s.top (s.used + k) }
theorem gsPut_keys (s : HSt) (f : Nat) (a : Addr) : (s.gsPut f a).map (·.1) = if f ∈ s.gs.map (·.1) then s.gs.map (·.1) else s.gs.map (·.1) ++ [f] := by
  unfold HSt.gsPut
  split
  · rw [List.map_map]
    refine List.map_congr_left fun x _ => ?_
    show (if x.1 = f then (f, a) else x).1 = x.1
    split
    · rename_i h; exact h.symm
    · rfl
  · rw [List.map_append]; rfl
theorem gsPut_mem {s : HSt} {f : Nat} {a : Addr} {x : Nat × Addr} (h : x ∈ s.gsPut f a) : x = (f, a) ∨ (x ∈ s.gs ∧ x.1 ≠ f) := by
  unfold HSt.gsPut at h
  split at h
  · obtain ⟨y, hy, e⟩ := List.mem_map.mp h
    by_cases c : y.1 = f
    · rw [if_pos c] at e; exact .inl e.symm
    · rw [if_neg c] at e; subst e; exact .inr ⟨hy, c⟩
  · rename_i hn
    rcases List.mem_append.mp h with g | g
    · exact .inr ⟨g, fun c => hn (List.mem_map.mpr ⟨x, g, c⟩)⟩
    · rw [List.mem_singleton] at g; exact .inl g
theorem mem_gsPut (s : HSt) (f : Nat) (a : Addr) : (f, a) ∈ s.gsPut f a := by
  unfold HSt.gsPut
  split
  · rename_i h
    obtain ⟨y, hy, e⟩ := List.mem_map.mp h
    exact List.mem_map.mpr ⟨y, hy, if_pos e⟩
  · exact List.mem_append_right _ (List.mem_singleton.mpr rfl)
theorem mem_gsPut_of {s : HSt} {f : Nat} {a : Addr} {x : Nat × Addr} (h : x ∈ s.gs) (n : x.1 ≠ f) : x ∈ s.gsPut f a := by
  unfold HSt.gsPut
  split
  · exact List.mem_map.mpr ⟨x, h, if_neg n⟩
  · exact List.mem_append_left _ h
theorem made_giv (s : HSt) (f k : Nat) (a c w : Addr) (g : Nat) : (s.made f k a c w).giv g = s.giv g ++ if g = f then [⟨f, s.fill f, List.replicate k .non, c, w⟩] else [] := by
  unfold HSt.giv HSt.made
  rw [List.filter_append]
  congr 1
  by_cases h : g = f
  · subst h; simp
  · rw [if_neg h]; simp [Ne.symm h]
theorem szs_app (l m : List Rm) : szs (l ++ m) = szs l + szs m := by unfold szs; rw [List.map_append, List.sum_append]
theorem made_fill (s : HSt) (f k : Nat) (a c w : Addr) (g : Nat) : (s.made f k a c w).fill g = s.fill g + if g = f then k else 0 := by
  unfold HSt.fill
  rw [made_giv, szs_app]
  congr 1
  split
  · simp [szs]
  · rfl
theorem made_here {s : HSt} {f k : Nat} {a c w : Addr} (h : s.ts[f]? = some none) : (s.made f k a c w).here = s.here ++ [⟨f, s.fill f, List.replicate k .non, c, w⟩] := by
  unfold HSt.here HSt.made
  rw [List.filter_append]
  congr 1
  show List.filter (fun r : Rm => decide (s.ts[r.f]? = some none)) [(⟨f, s.fill f, List.replicate k .non, c, w⟩ : Rm)] = _
  simp [h]
theorem putK_gd {s : HSt} (f : Nat) (a : Addr) : putK s.gdL (.inl (f : Int)) (.ref a) = (s.gsPut f a).map fun x => (.inl (x.1 : Int), .ref x.2) := by
  unfold putK HSt.gsPut
  have e : (s.gdL.any fun kv => decide (kv.1 = .inl (f : Int))) = decide (f ∈ s.gs.map (·.1)) := by
    rw [Bool.eq_iff_iff, List.any_eq_true, decide_eq_true_eq]
    constructor
    · rintro ⟨y, hy, h⟩
      obtain ⟨x, hx, rfl⟩ := List.mem_map.mp hy
      have h2 := of_decide_eq_true h
      injection h2 with h2
      exact List.mem_map.mpr ⟨x, hx, by omega⟩
    · intro h
      obtain ⟨x, hx, rfl⟩ := List.mem_map.mp h
      exact ⟨_, List.mem_map.mpr ⟨x, hx, rfl⟩, decide_eq_true rfl⟩
  rw [e]
  by_cases h : f ∈ s.gs.map (·.1)
  · rw [if_pos (decide_eq_true h), if_pos h]
    unfold HSt.gdL
    rw [List.map_map, List.map_map]
    refine List.map_congr_left fun x _ => ?_
    show (if (Sum.inl (x.1 : Int) : L2.Key) = .inl (f : Int) then _ else _) = _
    by_cases c : x.1 = f
    · rw [if_pos (by rw [c])]
      show _ = ((.inl ((if x.1 = f then (f, a) else x).1 : Int), .ref (if x.1 = f then (f, a) else x).2) : L2.Key × V)
      rw [if_pos c]
      show (((.inl (x.1 : Int) : L2.Key), V.ref a) : L2.Key × V) = ((.inl (f : Int) : L2.Key), V.ref a)
      rw [c]
    · rw [if_neg (fun z => by injection z with z; omega)]
      show _ = ((.inl ((if x.1 = f then (f, a) else x).1 : Int), .ref (if x.1 = f then (f, a) else x).2) : L2.Key × V)
      rw [if_neg c]
  · rw [if_neg (by rw [decide_eq_false h]; exact Bool.false_ne_true), if_neg h, List.map_append]; rfl
theorem putK_fd {s : HSt} (f k : Nat) (a c w : Addr) : putK s.fdL (.inl (f : Int)) (.int ((s.fill f : Int) + k)) = (s.made f k a c w).fdL := by
  unfold putK
  have e : (s.fdL.any fun kv => decide (kv.1 = .inl (f : Int))) = decide (f ∈ s.gs.map (·.1)) := by
    rw [Bool.eq_iff_iff, List.any_eq_true, decide_eq_true_eq]
    constructor
    · rintro ⟨y, hy, h⟩
      obtain ⟨x, hx, rfl⟩ := List.mem_map.mp hy
      have h2 := of_decide_eq_true h
      injection h2 with h2
      exact List.mem_map.mpr ⟨x, hx, by omega⟩
    · intro h
      obtain ⟨x, hx, rfl⟩ := List.mem_map.mp h
      exact ⟨_, List.mem_map.mpr ⟨x, hx, rfl⟩, decide_eq_true rfl⟩
  rw [e]
  have hf : (s.made f k a c w).fill f = s.fill f + k := by rw [made_fill, if_pos rfl]
  by_cases h : f ∈ s.gs.map (·.1)
  · rw [if_pos (decide_eq_true h)]
    unfold HSt.fdL
    show _ = (s.gsPut f a).map _
    unfold HSt.gsPut
    rw [if_pos h, List.map_map, List.map_map]
    refine List.map_congr_left fun x _ => ?_
    show (if (Sum.inl (x.1 : Int) : L2.Key) = .inl (f : Int) then _ else _) = _
    by_cases c' : x.1 = f
    · rw [if_pos (by rw [c'])]
      show _ = ((.inl ((if x.1 = f then (f, a) else x).1 : Int), .int ((s.made f k a c w).fill (if x.1 = f then (f, a) else x).1 : Int)) : L2.Key × V)
      rw [if_pos c']
      show (((.inl (x.1 : Int) : L2.Key), V.int ((s.fill f : Int) + k)) : L2.Key × V) = ((.inl (f : Int) : L2.Key), V.int ((s.made f k a c w).fill f : Int))
      rw [c', hf]; rfl
    · rw [if_neg (fun z => by injection z with z; omega)]
      show _ = ((.inl ((if x.1 = f then (f, a) else x).1 : Int), .int ((s.made f k a c w).fill (if x.1 = f then (f, a) else x).1 : Int)) : L2.Key × V)
      rw [if_neg c', made_fill, if_neg c']; rfl
  · rw [if_neg (by rw [decide_eq_false h]; exact Bool.false_ne_true)]
    unfold HSt.fdL
    show _ = (s.gsPut f a).map _
    unfold HSt.gsPut
    rw [if_neg h, List.map_append]
    congr 1
    · refine List.map_congr_left fun x hx => ?_
      have c' : x.1 ≠ f := fun z => h (List.mem_map.mpr ⟨x, hx, z⟩)
      rw [made_fill, if_neg c']; rfl
    · show _ = [((.inl (f : Int), .int ((s.made f k a c w).fill f : Int)) : L2.Key × V)]
      rw [hf]; rfl
theorem new_key {s : HSt} (x : HPl s) (f : Nat) : ∀ r ∈ s.rs, ¬ (r.f = f ∧ r.o = s.fill f) := by
  rintro r hr ⟨e1, e2⟩
  have h1 := x.ro r hr
  have h2 := (x.sz r hr).1
  rw [e1] at h1
  omega
theorem putK_sd {s : HSt} (x : HPl s) (f k : Nat) (a c w : Addr) : putK s.sdL [.inl (f : Int), .inl (s.fill f : Int)] (.int (k : Int)) = (s.made f k a c w).sdL := by
  rw [putK_new _ (sv_no (new_key x f))]
  unfold HSt.sdL HSt.made
  rw [List.map_append]
  congr 1
  simp [Rm.key]
theorem putK_hd {s : HSt} (x : HPl s) (f k : Nat) (a c w : Addr) (h : s.ts[f]? = some none) : putK (hdL s.here) [.inl (f : Int), .inl (s.fill f : Int)] (.ref c) = hdL (s.made f k a c w).here := by
  rw [putK_new, made_here h]
  · unfold hdL; rw [List.map_append]; rfl
  · refine valV_no fun z => ?_
    rw [hdL_keys, List.mem_map] at z
    obtain ⟨r, hr, e⟩ := z
    refine new_key x f r (List.mem_filter.mp hr).1 ?_
    unfold Rm.key at e
    injection e with e1 e2
    injection e1 with e1
    injection e2 with e2 _
    injection e2 with e2
    omega
theorem mem_giv {s : HSt} {f : Nat} {r : Rm} : r ∈ s.giv f ↔ r ∈ s.rs ∧ r.f = f := by
  unfold HSt.giv; rw [List.mem_filter, decide_eq_true_eq]
theorem HPl.made {s : HSt} (x : HPl s) {f k : Nat} {a c w : Addr} (hf : s.ts[f]? = some none) (hl : f < s.hs.length) (k1 : 1 ≤ k) (k6 : k ≤ 6) (hu : s.used + k ≤ s.most)
    (na : ∀ b ∈ s.gs.map (·.2) ++ s.here.map (·.c), b ≠ a ∧ b ≠ c) (nac : a ≠ c) (nh : s.h ≠ a ∧ s.h ≠ c) (nt : s.t ≠ a ∧ s.t ≠ c) : HPl (s.made f k a c w) := by
  have hused : (s.made f k a c w).used = s.used + k := by
    unfold HSt.used; rw [made_here hf, szs_app]; simp [szs]
  have gsnd : ∀ b ∈ (s.gsPut f a).map (·.2), b = a ∨ b ∈ s.gs.map (·.2) := fun b hb => by
    obtain ⟨y, hy, rfl⟩ := List.mem_map.mp hb
    rcases gsPut_mem hy with z | ⟨z, _⟩
    · rw [z]; exact .inl rfl
    · exact .inr (List.mem_map.mpr ⟨y, z, rfl⟩)
  have spl := List.nodup_append.mp x.sp
  have sub : ∀ b ∈ (s.made f k a c w).gs.map (·.2) ++ (s.made f k a c w).here.map (·.c), b = a ∨ b = c ∨ b ∈ s.gs.map (·.2) ++ s.here.map (·.c) := fun b hb => by
    rcases List.mem_append.mp hb with z | z
    · rcases gsnd b z with e | e
      · exact .inl e
      · exact .inr (.inr (List.mem_append_left _ e))
    · rw [made_here hf, List.map_append, List.mem_append] at z
      rcases z with z | z
      · exact .inr (.inr (List.mem_append_right _ z))
      · exact .inr (.inl (by simpa using z))
  refine ⟨?_, ?_, ?_, ?_, ?_, ?_, ?_, x.mo, ?_, ?_, ?_, ?_, ?_, x.s3, x.s4⟩
  · show ((s.gsPut f a).map (·.1)).Nodup
    rw [gsPut_keys]
    split
    · exact x.gn
    · rename_i h
      exact List.nodup_append.mpr ⟨x.gn, by simp, fun b hb c' hc e => h (by rw [List.mem_singleton] at hc; rw [← hc, ← e]; exact hb)⟩
  · intro r hr
    rcases List.mem_append.mp hr with z | z
    · obtain ⟨b, hb⟩ := x.gm r z
      by_cases e : r.f = f
      · exact ⟨a, by rw [e]; exact mem_gsPut s f a⟩
      · exact ⟨b, mem_gsPut_of hb e⟩
    · rw [List.mem_singleton] at z; subst z; exact ⟨a, mem_gsPut s f a⟩
  · have e1 : ((s.gsPut f a).map (·.1)).length = (s.gsPut f a).length := List.length_map _
    have := x.gle
    show (s.gsPut f a).length ≤ (s.rs ++ [_]).length
    rw [← e1, gsPut_keys, List.length_append]
    split
    · rw [List.length_map]; simp; omega
    · rw [List.length_append, List.length_map]; simp; omega
  · show ((s.rs ++ [(⟨f, s.fill f, List.replicate k .non, c, w⟩ : Rm)]).map fun r : Rm => (r.f, r.o)).Nodup
    rw [List.map_append]
    refine List.nodup_append.mpr ⟨x.kn, by simp, fun b hb c' hc e => ?_⟩
    obtain ⟨r, hr, rfl⟩ := List.mem_map.mp hb
    have hc2 : c' = (f, s.fill f) := by simpa using hc
    rw [hc2] at e
    exact new_key x f r hr ⟨congrArg Prod.fst e, congrArg Prod.snd e⟩
  · intro r hr
    rw [made_fill]
    rcases List.mem_append.mp hr with z | z
    · have := x.ro r z; omega
    · rw [List.mem_singleton] at z; subst z
      rw [if_pos rfl, List.length_replicate]
      show s.fill f + k ≤ s.fill f + k
      exact Nat.le_refl _
  · intro r hr
    rcases List.mem_append.mp hr with z | z
    · exact x.sz r z
    · rw [List.mem_singleton] at z; subst z
      rw [List.length_replicate]; exact ⟨k1, k6⟩
  · intro r hr
    rcases List.mem_append.mp hr with z | z
    · exact x.fl r z
    · rw [List.mem_singleton] at z; subst z; exact hl
  · rw [hused]; exact Nat.le_max_right _ _
  · have := x.tm
    show max s.top (s.used + k) ≤ s.most
    omega
  · show ((s.gsPut f a).map (·.2) ++ (s.made f k a c w).here.map (·.c)).Nodup
    rw [made_here hf, List.map_append]
    refine List.nodup_append.mpr ⟨?_, List.nodup_append.mpr ⟨spl.2.1, by simp, fun b hb c' hc e => ?_⟩, fun b hb c' hc e => ?_⟩
    · unfold HSt.gsPut
      split
      · have key : ∀ l : List (Nat × Addr), (l.map (·.1)).Nodup → (l.map (·.2)).Nodup → (∀ y ∈ l, y.2 ≠ a) → ((l.map fun x => if x.1 = f then (f, a) else x).map (·.2)).Nodup := by
          intro l
          induction l with
          | nil => intro _ _ _; simp
          | cons y l ih =>
            intro h1 h2 h3
            rw [List.map_cons, List.nodup_cons] at h1 h2
            rw [List.map_cons, List.map_cons, List.nodup_cons]
            refine ⟨fun z => ?_, ih h1.2 h2.2 fun q hq => h3 q (by simp [hq])⟩
            rw [List.map_map] at z
            obtain ⟨q, hq, e⟩ := List.mem_map.mp z
            have e' : (if q.1 = f then (f, a) else q).2 = (if y.1 = f then (f, a) else y).2 := e
            by_cases c1 : q.1 = f
            · by_cases c2 : y.1 = f
              · exact h1.1 (List.mem_map.mpr ⟨q, hq, by rw [c1, c2]⟩)
              · rw [if_pos c1, if_neg c2] at e'
                exact h3 y (by simp) e'.symm
            · by_cases c2 : y.1 = f
              · rw [if_neg c1, if_pos c2] at e'
                exact h3 q (by simp [hq]) e'
              · rw [if_neg c1, if_neg c2] at e'
                exact h2.1 (List.mem_map.mpr ⟨q, hq, e'⟩)
        exact key s.gs x.gn spl.1 fun y hy => (na y.2 (List.mem_append_left _ (List.mem_map.mpr ⟨y, hy, rfl⟩))).1
      · rw [List.map_append]
        refine List.nodup_append.mpr ⟨spl.1, by simp, fun b hb c' hc e => ?_⟩
        have hc2 : c' = a := by simpa using hc
        exact (na b (List.mem_append_left _ hb)).1 (e.trans hc2)
    · have hc2 : c' = c := by simpa using hc
      exact (na b (List.mem_append_right _ hb)).2 (e.trans hc2)
    · rcases gsnd b hb with e1 | e1
      · rcases List.mem_append.mp hc with z | z
        · exact (na c' (List.mem_append_right _ z)).1 (e.symm.trans e1)
        · have hc2 : c' = c := by simpa using z
          exact nac (e1.symm.trans (e.trans hc2))
      · rcases List.mem_append.mp hc with z | z
        · exact spl.2.2 b e1 c' z e
        · have hc2 : c' = c := by simpa using z
          exact (na b (List.mem_append_left _ e1)).2 (e.trans hc2)
  · intro z
    rcases sub _ z with e | e | e
    · exact nh.1 e
    · exact nh.2 e
    · exact x.s1 e
  · intro z
    rcases sub _ z with e | e | e
    · exact nt.1 e
    · exact nt.2 e
    · exact x.s2 e

end Lw
namespace Lw
open PySem PySem.Spec L2 FG
open PyProof.Rows hiding St
theorem VOk.mono {H : Hp} {l m : List Rm} {v : V} (x : VOk H l v) (h : ∀ r ∈ l, r ∈ m) : VOk H m v := by
  rcases x with e | e | ⟨r, hr, q⟩
  · exact .inl e
  · exact .inr (.inl e)
  · exact .inr (.inr ⟨r, h r hr, q⟩)
theorem frF_top {fs : List (Str × V)} {h t : Addr} (ff : FrF fs h t) (v : V) : FrF (putF "top" v fs) h t := by
  refine ⟨by rw [lookup_putF, if_neg (by decide +kernel)]; exact ff.hh, by rw [lookup_putF, if_neg (by decide +kernel)]; exact ff.tt, fun m hm => ?_⟩
  have z : (frMeths.all fun m => decide (¬ m = ("top" : Str))) = true := by decide +kernel
  rw [lookup_putF, if_neg (of_decide_eq_true (List.all_eq_true.mp z m hm))]
  exact ff.no m hm
theorem putF_len {f : Str} {v x : V} : ∀ {fs : List (Str × V)}, fs.lookup f = some x → (putF f v fs).length = fs.length
  | [], h => by cases h
  | (g, y) :: r, h => by
    unfold putF
    by_cases e : g = f
    · rw [if_pos e]; rfl
    · rw [if_neg e]
      have h2 : r.lookup f = some x := by
        have e2 : (f == g) = false := by simpa using fun z => e z.symm
        simpa [List.lookup, e2] using h
      show (putF f v r).length + 1 = r.length + 1
      rw [putF_len h2]
theorem rep_flat (k : Nat) : (List.replicate k [V.non]).flatten = List.replicate k V.non := by
  induction k with
  | zero => rfl
  | succ k ih => rw [List.replicate_succ, List.flatten_cons, ih, List.replicate_succ]; rfl
theorem HoAt.made {C : Addr} {H H' : Hp} {s : HSt} {f k : Nat} {a c w dx : Addr} {fs : List (Str × V)} (x : HoAt C H s) (ff : FrF fs s.h s.t) (hf : HoF fs s) (hup : s.ts[f]? = some none) (k1 : 1 ≤ k) (k6 : k ≤ 6) (hu : s.used + k ≤ s.most)
    (ha : H a = none) (hc : H c = none) (nac : a ≠ c) (kp : Kp [s.p, s.gd, s.fd, s.sd, s.hd] H H') (ep : H' s.p = some (.ins C dx (putF "top" (.int ((max s.top (s.used + k) : Nat) : Int)) fs)))
    (eg : H' s.gd = some (.dK (putK s.gdL (.inl (f : Int)) (.ref a)))) (ef : H' s.fd = some (.dK (putK s.fdL (.inl (f : Int)) (.int ((s.fill f : Int) + k))))) (es : H' s.sd = some (.dT (putK s.sdL [.inl (f : Int), .inl (s.fill f : Int)] (.int (k : Int)))))
    (eh : H' s.hd = some (.dT (putK (hdL s.here) [.inl (f : Int), .inl (s.fill f : Int)] (.ref c)))) (ea : H' a = some (.lst (((s.giv f).map fun r => .ref r.w) ++ [.ref w]))) (ec : H' c = some (.lst (List.replicate k .non)))
    (ew : H' w = some (.tup [.int (f : Int), .int (s.fill f : Int)])) : HoAt C H' (s.made f k a c w) := by
  obtain ⟨dx0, fs0, e0, _, _⟩ := x.ob
  have wl := x.wf.len
  have hl : f < s.hs.length := by have := (List.getElem?_eq_some_iff.mp hup).1; omega
  have notin : ∀ {b o}, H b = some o → (∀ C d g, o ≠ .ins C d g) → (∀ q, o ≠ .dK q) → (∀ q, o ≠ .dT q) → H' b = some o := fun {b o} eb h1 h2 h3 => kp b o eb (by
    intro z
    simp only [List.mem_cons, List.not_mem_nil, or_false] at z
    rcases z with z | z | z | z | z
    · rw [z, e0] at eb; cases eb; exact h1 _ _ _ rfl
    · rw [z, x.gd] at eb; cases eb; exact h2 _ rfl
    · rw [z, x.fd] at eb; cases eb; exact h2 _ rfl
    · rw [z, x.sd] at eb; cases eb; exact h3 _ rfl
    · rw [z, x.hd] at eb; cases eb; exact h3 _ rfl)
  have lk : ∀ {b xs}, H b = some (.lst xs) → H' b = some (.lst xs) := fun eb => notin eb (fun _ _ _ z => by cases z) (fun _ z => by cases z) (fun _ z => by cases z)
  have tk : ∀ b xs, H b = some (.tup xs) → H' b = some (.tup xs) := fun b xs eb => notin eb (fun _ _ _ z => by cases z) (fun _ z => by cases z) (fun _ z => by cases z)
  have na : ∀ b ∈ s.gs.map (·.2) ++ s.here.map (·.c), b ≠ a ∧ b ≠ c := fun b hb => by
    have hs : ∃ o, H b = some o := by
      rcases List.mem_append.mp hb with z | z
      · obtain ⟨y, hy, rfl⟩ := List.mem_map.mp z; exact ⟨_, x.gl y hy⟩
      · obtain ⟨y, hy, rfl⟩ := List.mem_map.mp z; exact ⟨_, x.cl y hy⟩
    obtain ⟨o, eo⟩ := hs
    exact ⟨ne_of_none eo ha, ne_of_none eo hc⟩
  refine ⟨⟨dx, _, ep, frF_top ff _, ?_⟩, lk x.lh, lk x.lt, x.ne, x.wf, ?_, ?_, ?_, ?_, ?_, ?_, ?_, ?_, x.pl.made hup hl k1 k6 hu na nac ⟨ne_of_none x.lh ha, ne_of_none x.lh hc⟩ ⟨ne_of_none x.lt ha, ne_of_none x.lt hc⟩⟩
  · refine ⟨?_, ?_, ?_, ?_, ?_, ?_, by rw [putF_len hf.top]; exact hf.len⟩
    · rw [lookup_putF, if_neg (by decide +kernel)]; exact hf.most
    · rw [lookup_putF, if_pos rfl]; rfl
    · rw [lookup_putF, if_neg (by decide +kernel)]; exact hf.gd
    · rw [lookup_putF, if_neg (by decide +kernel)]; exact hf.fd
    · rw [lookup_putF, if_neg (by decide +kernel)]; exact hf.sd
    · rw [lookup_putF, if_neg (by decide +kernel)]; exact hf.hd
  · rw [show (s.made f k a c w).gd = s.gd from rfl, eg, putK_gd]; rfl
  · rw [show (s.made f k a c w).fd = s.fd from rfl, ef, putK_fd f k a c w]
  · rw [show (s.made f k a c w).sd = s.sd from rfl, es, putK_sd x.pl f k a c w]
  · rw [show (s.made f k a c w).hd = s.hd from rfl, eh, putK_hd x.pl f k a c w hup]
  · intro y hy
    rw [made_giv]
    rcases gsPut_mem hy with z | ⟨z, n⟩
    · rw [z, if_pos rfl, List.map_append]; exact ea
    · rw [if_neg n, List.append_nil]; exact lk (x.gl y z)
  · intro r hr
    rw [made_here hup] at hr
    rcases List.mem_append.mp hr with z | z
    · exact lk (x.cl r z)
    · rw [List.mem_singleton] at z; subst z; exact ec
  · intro r hr
    rcases List.mem_append.mp hr with z | z
    · exact tk _ _ (x.wl r z)
    · rw [List.mem_singleton] at z; subst z; exact ew
  · intro r hr v hv
    rw [made_here hup] at hr
    rcases List.mem_append.mp hr with z | z
    · exact ((x.vs r z v hv).kp tk).mono fun q hq => List.mem_append_left _ hq
    · rw [List.mem_singleton] at z; subst z
      exact .inl (List.eq_of_mem_replicate hv)
def spMake (K : PySem.W.Frag) : Sp := fun vs H Q E => ∃ (s : HSt) (f k : Nat), vs = [.ref s.p, nint f, nint k] ∧ HoAt (CH K) H s ∧ s.ts[f]? = some none ∧ 1 ≤ k ∧ k ≤ 6 ∧ s.rs.length < 1000000 ∧
  (s.used + k ≤ s.most → ∀ a c w H', H a = none → H c = none → H w = none → Kp [s.p, s.gd, s.fd, s.sd, s.hd] H H' → HoAt (CH K) H' (s.made f k a c w) → Q (.ref w) H') ∧
  (s.most < s.used + k → ∀ d H', Kp [] H H' → H' d = some (.xd [("spare", .int ((s.most : Int) - s.used)), ("need", nint k)]) → E (.ref (He.ga K "Full")) (some d) H')
section
variable {P : Program} {w : World} {K : PySem.W.Frag} {mg : Str → Option Value} {base : Heap}
theorem ok_make (T : Tx K mg) {fd : FuncData} {f : Addr} (F : Fun K "make" "House.make" s_House_make f fd) (m_need_standing : Met P w K mg base 4 (CH K) "need_standing" (spStd (CH K))) (c_is_whole : Cal P w K mg base 2 "is_whole" spWhole)
    (m_left : Met P w K mg base 2 (CH K) "left" (spLeft K)) (m_used : Met P w K mg base 1 (CH K) "used" (spUsed K)) (r_NoNumber : Rai P w K mg base "NoNumber" (He.ga K "NoNumber") ["found"]) (r_Full : Rai P w K mg base "Full" (He.ga K "Full") ["need", "spare"]) :
    FnG P w K mg base 5 f fd ["self", "frame", "size"] (spMake K) := by
  obtain ⟨tM, hg_MOST_SIZE⟩ := T.i_MOST_SIZE
  refine FnG.of F sc_House_make (fun vs H Q E h => ?_) (fun cdv A outer s H vs Q E hr h => ?_)
  · obtain ⟨s, f, k, rfl, _⟩ := h; rfl
  · obtain ⟨s, f, k, rfl, ho, hup, k1, k6, hrs, q1, q2⟩ := h
    obtain ⟨dx, fs, e, ff, hf⟩ := ho.ob
    have pl := ho.pl
    refine ⟨_, pss_cons (ps_expr (gm m_need_standing (hr.mono (by decide)) tkE (pv 0) (pa_cons (pv 1) (pa_nil))))
      (pss_cons (ps_if (pt_not (pt_val (gc c_is_whole (hr.mono (by decide)) tkE (pa_cons (pv 2) (pa_cons (pe_int) (pa_cons (pe_glob (v := .int 6) rfl hg_MOST_SIZE ⟨_, rfl⟩) (pa_nil))))))) (pss_one (ps_rais r_NoNumber (hr.mono (by decide)) tkE (pa_cons (pv 2) (pa_nil)))) (pss_nil))
      (pss_cons (ps_if (pt_cmpR op_gt (pv 2) (gm0 m_left (hr.mono (by decide)) tkE (pv 0)) (by first | exact nomark _ | rfl)) (pss_one (ps_rais r_Full (hr.mono (by decide)) tkE (pa_cons (pv 2) (pa_cons (gm0 m_left (hr.mono (by decide)) tkE (pv 0)) (pa_nil))))) (pss_nil))
      (pss_cons (ps_set (i := 3) sc_House_make.nd rfl (by first | exact Or.inl rfl | exact Or.inr rfl) (pe_tup (pa_cons (pv 1) (pa_cons (pe_dget2 hr.hu (kfld K (pv 0)) (pv 1) (pe_int) ⟨rfl, rfl, rfl, rfl⟩) (pa_nil)))))
      (pss_cons (ps_dput hr.hu (kfld K (pv 0)) (pv 1) (pe_op op_cat (pe_dget2 hr.hu (kfld K (pv 0)) (pv 1) (pe_lst (pa_nil)) ⟨rfl, rfl, rfl, rfl⟩) (pe_lst (pa_cons (pv 3) (pa_nil)))) rfl)
      (pss_cons (ps_dput hr.hu (kfld K (pv 0)) (pv 1) (pe_op op_add (pe_ix (kixT K) (pv 3) (pe_int) (fun _ _ => rfl)) (pv 2)) rfl)
      (pss_cons (ps_dput hr.hu (kfld K (pv 0)) (pv 3) (pv 2) rfl)
      (pss_cons (ps_dput hr.hu (kfld K (pv 0)) (pv 3) (pe_op op_rep (pe_lst (pa_cons (pe_non) (pa_nil))) (pv 2)) rfl)
      (pss_cons (ksFld K (pv 0) (pe_callB (call_max2 rfl) (by rfl) T.z_max (by decide +kernel) (pa_cons (kfld K (pv 0)) (pa_cons (gm0 m_used (hr.mono (by decide)) tkE (pv 0)) (pa_nil)))))
      (pss_one (ps_ret (pv 3))))))))))), ?_⟩
    refine ⟨_, rfl, s.p, dx, fs, rfl, e, ff.no _ (by decide +kernel), _, rfl, s.p, s.h, s.t, s.hs, s.ts, f, rfl, ho.fr, hup, ?_⟩
    refine ⟨_, rfl, (k : Int), 1, 6, rfl, _, rfl, ?_⟩
    have z : decide ((1 : Int) ≤ (k : Int) ∧ (k : Int) ≤ 6) = true := decide_eq_true ⟨by omega, by omega⟩
    rw [z]
    refine iteF ⟨_, rfl, _, rfl, s.p, dx, fs, rfl, e, ff.no _ (by decide +kernel), s, rfl, ho, fun H1 n1 => ⟨_, _, rfl, rfl, _, rfl, ?_⟩⟩
    have ho1 := ho.kp0 n1
    have e1 := n1 _ _ e (by simp)
    by_cases hfull : s.most < s.used + k
    · rw [decide_eq_true (by omega : (s.most : Int) - s.used < (k : Int))]
      refine iteT ⟨_, rfl, _, rfl, s.p, dx, fs, rfl, e1, ff.no _ (by decide +kernel), s, rfl, ho1, fun H2 n2 => ⟨rfl, (by show 2 ≤ 10; decide), fun d hd => q2 hfull d _ ((n1.trans n2).new hd) upd_same⟩⟩
    rw [decide_eq_false (by omega : ¬ (s.most : Int) - s.used < (k : Int))]
    have hu : s.used + k ≤ s.most := by omega
    -- way = (frame, self.filled.get(frame, 0))
    obtain ⟨o, hdg, eo⟩ : ∃ o, DGet H1 s.fd (nint f) o ∧ o.getD (.int 0) = .int (s.fill f : Int) := by
      refine ⟨_, DGet.k (k := .inl (f : Int)) ho1.fd, ?_⟩
      by_cases hg : f ∈ s.gs.map (·.1)
      · obtain ⟨⟨f', a⟩, hx, rfl⟩ := List.mem_map.mp hg
        rw [fv_in pl hx]; rfl
      · rw [fv_no hg, fill_no pl hg]; rfl
    refine iteF ⟨_, rfl, _, rfl, s.p, CH K, dx, fs, _, rfl, e1, T.c_House, T.n_House_filled, hf.fd, s.fd, rfl, .inl ⟨_, .inl ho1.fd⟩, _, rfl, o, hdg, ?_⟩
    rw [eo]
    refine ⟨(by show 2 ≤ sizeLine; decide), fun w hw => ?_⟩
    have n2 := n1.new (o := .tup [nint f, .int (s.fill f : Int)]) hw
    have ew2 : L2.upd H1 w (.tup [nint f, .int (s.fill f : Int)]) w = some (.tup [.int (f : Int), .int (s.fill f : Int)]) := upd_same
    have hwH : H w = none := n1.free hw
    generalize L2.upd H1 w (.tup [nint f, .int (s.fill f : Int)]) = H2 at *
    have ho2 := ho.kp0 n2
    have e2 := n2 _ _ e (by simp)
    -- self.given[frame] = self.given.get(frame, []) + [way]
    refine ⟨_, rfl, s.p, CH K, dx, fs, _, rfl, e2, T.c_House, T.n_House_given, hf.gd, s.gd, rfl, .inl ⟨_, .inl ho2.gd⟩, _, rfl, by decide, fun l0 hl0 => ?_⟩
    have n3 := n2.new (o := .lst []) hl0
    have e03 : L2.upd H2 l0 (.lst []) l0 = some (.lst []) := upd_same
    have ew3 : L2.upd H2 l0 (.lst []) w = some (.tup [.int (f : Int), .int (s.fill f : Int)]) := (upd_ne (ne_of_none ew2 hl0)).trans ew2
    generalize L2.upd H2 l0 (.lst []) = H3 at *
    have ho3 := ho.kp0 n3
    have e3 := n3 _ _ e (by simp)
    obtain ⟨o3, lx, hdg3, eo3, elx⟩ : ∃ o lx, DGet H3 s.gd (nint f) o ∧ o.getD (.ref l0) = .ref lx ∧ H3 lx = some (.lst ((s.giv f).map fun r => .ref r.w)) := by
      by_cases hg : f ∈ s.gs.map (·.1)
      · obtain ⟨⟨f', a⟩, hx, rfl⟩ := List.mem_map.mp hg
        exact ⟨_, a, DGet.k (k := .inl (f' : Int)) ho3.gd, by rw [gv_in pl hx]; rfl, ho3.gl _ hx⟩
      · exact ⟨_, l0, DGet.k (k := .inl (f : Int)) ho3.gd, by rw [gv_no hg]; rfl, by rw [giv_no pl hg]; exact e03⟩
    refine ⟨o3, hdg3, ?_⟩
    rw [eo3]
    refine ⟨_, rfl, (by show 1 ≤ sizeLine; decide), fun l1 hl1 => ?_⟩
    have n4 := n3.new (o := .lst [.ref w]) hl1
    have e14 : L2.upd H3 l1 (.lst [.ref w]) l1 = some (.lst [.ref w]) := upd_same
    have elx4 : L2.upd H3 l1 (.lst [.ref w]) lx = _ := (upd_ne (ne_of_none elx hl1)).trans elx
    have ew4 : L2.upd H3 l1 (.lst [.ref w]) w = _ := (upd_ne (ne_of_none ew3 hl1)).trans ew3
    generalize L2.upd H3 l1 (.lst [.ref w]) = H4 at *
    have hgl : (s.giv f).length ≤ s.rs.length := List.length_filter_le _ _
    have big : (1000010 : Nat) ≤ sizeLine := by decide
    refine ⟨lx, l1, _, _, rfl, rfl, elx4, e14, (by rw [List.length_map]; show _ + 1 ≤ _; omega), fun a ha => ?_⟩
    have n5 := n4.new (o := .lst (((s.giv f).map fun r => .ref r.w) ++ [.ref w])) ha
    have ea5 : L2.upd H4 a (.lst (((s.giv f).map fun r => .ref r.w) ++ [.ref w])) a = some (.lst (((s.giv f).map fun r => .ref r.w) ++ [.ref w])) := upd_same
    have ew5 : L2.upd H4 a (.lst (((s.giv f).map fun r => .ref r.w) ++ [.ref w])) w = _ := (upd_ne (ne_of_none ew4 ha)).trans ew4
    have haH : H a = none := n4.free ha
    generalize L2.upd H4 a (.lst (((s.giv f).map fun r => .ref r.w) ++ [.ref w])) = H5 at *
    have ho5 := ho.kp0 n5
    have e5 := n5 _ _ e (by simp)
    have gle := pl.gle
    refine ⟨_, rfl, s.p, CH K, dx, fs, _, rfl, e5, T.c_House, T.n_House_given, hf.gd, _, rfl, s.gd, _, rfl, DPut.k (k := .inl (f : Int)) ho5.gd (by unfold HSt.gdL; rw [List.length_map]; omega), ?_⟩
    -- the tables, one behind the other
    have pg : s.p ≠ s.gd := ne_of e ho.gd (fun z => by cases z)
    have pf : s.p ≠ s.fd := ne_of e ho.fd (fun z => by cases z)
    have ps : s.p ≠ s.sd := ne_of e ho.sd (fun z => by cases z)
    have ph : s.p ≠ s.hd := ne_of e ho.hd (fun z => by cases z)
    have gs' : s.gd ≠ s.sd := ne_of ho.gd ho.sd (fun z => by cases z)
    have gh' : s.gd ≠ s.hd := ne_of ho.gd ho.hd (fun z => by cases z)
    have fs' : s.fd ≠ s.sd := ne_of ho.fd ho.sd (fun z => by cases z)
    have fh' : s.fd ≠ s.hd := ne_of ho.fd ho.hd (fun z => by cases z)
    have gf' := pl.s3
    have sh' := pl.s4
    have wg : w ≠ s.gd := (ne_of_none ho.gd hwH).symm
    have wf' : w ≠ s.fd := (ne_of_none ho.fd hwH).symm
    have ws' : w ≠ s.sd := (ne_of_none ho.sd hwH).symm
    have wh' : w ≠ s.hd := (ne_of_none ho.hd hwH).symm
    have wp' : w ≠ s.p := (ne_of_none e hwH).symm
    have ag : a ≠ s.gd := (ne_of_none ho.gd haH).symm
    have af : a ≠ s.fd := (ne_of_none ho.fd haH).symm
    have as' : a ≠ s.sd := (ne_of_none ho.sd haH).symm
    have ah' : a ≠ s.hd := (ne_of_none ho.hd haH).symm
    have ap' : a ≠ s.p := (ne_of_none e haH).symm
    obtain ⟨H6, h6⟩ : ∃ H6, H6 = L2.upd H5 s.gd (.dK (putK s.gdL (.inl (f : Int)) (.ref a))) := ⟨_, rfl⟩
    rw [← h6]
    have r6 : ∀ b, b ≠ s.gd → H6 b = H5 b := fun b hb => by rw [h6]; exact upd_ne hb
    have eg6 : H6 s.gd = some (.dK (putK s.gdL (.inl (f : Int)) (.ref a))) := by rw [h6]; exact upd_same
    refine ⟨_, rfl, w, _, _, _, rfl, rfl, SqT.of ((r6 w wg).trans ew5), atI_nat (j := 1) rfl, _, rfl, _, _, rfl, rfl, _, rfl, s.p, CH K, dx, fs, _, rfl, (r6 _ pg).trans e5, T.c_House, T.n_House_filled, hf.fd, _, rfl, s.fd, _, rfl, DPut.k (k := .inl (f : Int)) ((r6 _ gf'.symm).trans ho5.fd) (by unfold HSt.fdL; rw [List.length_map]; omega), ?_⟩
    obtain ⟨H7, h7⟩ : ∃ H7, H7 = L2.upd H6 s.fd (.dK (putK s.fdL (.inl (f : Int)) (.int ((s.fill f : Int) + (k : Int))))) := ⟨_, rfl⟩
    rw [← h7]
    have r7 : ∀ b, b ≠ s.fd → H7 b = H6 b := fun b hb => by rw [h7]; exact upd_ne hb
    have ef7 : H7 s.fd = some (.dK (putK s.fdL (.inl (f : Int)) (.int ((s.fill f : Int) + (k : Int))))) := by rw [h7]; exact upd_same
    have ew7 : H7 w = _ := (r7 w wf').trans ((r6 w wg).trans ew5)
    refine ⟨_, rfl, _, rfl, s.p, CH K, dx, fs, _, rfl, (r7 _ pf).trans ((r6 _ pg).trans e5), T.c_House, T.n_House_sizes, hf.sd, _, rfl, s.sd, _, rfl, DPut.t (k := [.inl (f : Int), .inl (s.fill f : Int)]) ((r7 _ fs'.symm).trans ((r6 _ gs'.symm).trans ho5.sd)) ew7 (by unfold HSt.sdL; rw [List.length_map]; omega), ?_⟩
    obtain ⟨H8, h8⟩ : ∃ H8, H8 = L2.upd H7 s.sd (.dT (putK s.sdL [.inl (f : Int), .inl (s.fill f : Int)] (.int (k : Int)))) := ⟨_, rfl⟩
    have eq8 : L2.upd H7 s.sd (.dT (putK s.sdL [.inl (f : Int), .inl (s.fill f : Int)] (nint k))) = H8 := h8.symm
    rw [eq8]
    have r8 : ∀ b, b ≠ s.sd → H8 b = H7 b := fun b hb => by rw [h8]; exact upd_ne hb
    have es8 : H8 s.sd = some (.dT (putK s.sdL [.inl (f : Int), .inl (s.fill f : Int)] (.int (k : Int)))) := by rw [h8]; exact upd_same
    have ep8 : H8 s.p = some (.ins (CH K) dx fs) := (r8 _ ps).trans ((r7 _ pf).trans ((r6 _ pg).trans e5))
    have ew8 : H8 w = _ := (r8 w ws').trans ew7
    have eh8 : H8 s.hd = some (.dT (hdL s.here)) := (r8 _ sh'.symm).trans ((r7 _ fh'.symm).trans ((r6 _ gh'.symm).trans ho5.hd))
    -- self.held[way] = [None] * size
    refine ⟨(by show 1 ≤ sizeLine; decide), fun l2 hl2 => ⟨_, rfl, l2, (k : Int), [.non], rfl, rfl, upd_same, by omega, by omega, (by rw [Int.toNat_natCast]; show 1 * k ≤ _; omega), fun c hc => ?_⟩⟩
    have el2 : ∀ b o, H8 b = some o → b ≠ l2 := fun b o eb => ne_of_none eb hl2
    rw [Int.toNat_natCast, rep_flat]
    have r9 : ∀ b o, H8 b = some o → L2.upd (L2.upd H8 l2 (.lst [.non])) c (.lst (List.replicate k .non)) b = some o := fun b o eb =>
      (upd_ne (ne_of_none ((upd_ne (el2 b o eb)).trans eb) hc)).trans ((upd_ne (el2 b o eb)).trans eb)
    have ec9 : L2.upd (L2.upd H8 l2 (.lst [.non])) c (.lst (List.replicate k .non)) c = some (.lst (List.replicate k .non)) := upd_same
    have hc8 : H8 c = none := by
      cases q : H8 c with
      | none => rfl
      | some o => rw [upd_ne (el2 c o q)] at hc; rw [q] at hc; cases hc
    generalize L2.upd (L2.upd H8 l2 (.lst [.non])) c (.lst (List.replicate k .non)) = H10 at *
    have hc5 : H5 c = none := by
      by_cases c1 : c = s.gd
      · rw [c1] at hc8; rw [r8 _ gs', r7 _ gf', eg6] at hc8; cases hc8
      by_cases c2 : c = s.fd
      · rw [c2] at hc8; rw [r8 _ fs', ef7] at hc8; cases hc8
      by_cases c3 : c = s.sd
      · rw [c3, es8] at hc8; cases hc8
      rw [r8 _ c3, r7 _ c2, r6 _ c1] at hc8; exact hc8
    have hcH : H c = none := n5.free hc5
    have nac : a ≠ c := ne_of_none ea5 hc5
    have kp8 : ∀ b o, H b = some o → b ∉ [s.p, s.gd, s.fd, s.sd, s.hd] → H8 b = some o := fun b o eb hb => by
      simp only [List.mem_cons, List.not_mem_nil, or_false, not_or] at hb
      rw [r8 _ hb.2.2.2.1, r7 _ hb.2.2.1, r6 _ hb.2.1]
      exact n5 b o eb (by simp)
    refine ⟨_, rfl, s.p, CH K, dx, fs, _, rfl, r9 _ _ ep8, T.c_House, T.n_House_held, hf.hd, _, rfl, s.hd, _, rfl, DPut.t (k := [.inl (f : Int), .inl (s.fill f : Int)]) (r9 _ _ eh8) (r9 _ _ ew8) (by unfold hdL; rw [List.length_map]; have := List.length_filter_le s.up s.rs; show (s.rs.filter s.up).length < _; omega), ?_⟩
    obtain ⟨H11, h11⟩ : ∃ H11, H11 = L2.upd H10 s.hd (.dT (putK (hdL s.here) [.inl (f : Int), .inl (s.fill f : Int)] (.ref c))) := ⟨_, rfl⟩
    rw [← h11]
    have r11 : ∀ b, b ≠ s.hd → H11 b = H10 b := fun b hb => by rw [h11]; exact upd_ne hb
    have eh11 : H11 s.hd = some (.dT (putK (hdL s.here) [.inl (f : Int), .inl (s.fill f : Int)] (.ref c))) := by rw [h11]; exact upd_same
    have ch' : c ≠ s.hd := (ne_of_none ho.hd hcH).symm
    have cp' : c ≠ s.p := (ne_of_none e hcH).symm
    have ep11 : H11 s.p = some (.ins (CH K) dx fs) := (r11 _ ph).trans (r9 _ _ ep8)
    have ec11 : H11 c = some (.lst (List.replicate k .non)) := (r11 _ ch').trans ec9
    have kp11 : ∀ b o, H b = some o → b ∉ [s.p, s.gd, s.fd, s.sd, s.hd] → H11 b = some o := fun b o eb hb => by
      have hb2 : b ≠ s.hd := fun z => hb (by rw [z]; simp)
      exact (r11 _ hb2).trans (r9 _ _ (kp8 b o eb hb))
    -- self.top = max(self.top, self.used())
    have hused : szs (s.made f k a c w).here = s.used + k := by
      rw [made_here hup, szs_app]; simp [szs, HSt.used]
    have ua : UsedAt (CH K) H11 s.p s.hd (s.made f k a c w).here := by
      refine ⟨⟨dx, fs, ep11, hf.hd⟩, by rw [eh11, putK_hd pl f k a c w hup], fun r hr2 => ?_, ?_⟩
      · rw [made_here hup] at hr2
        rcases List.mem_append.mp hr2 with z | z
        · have er := ho.cl r z
          refine kp11 _ _ er fun m => ?_
          simp only [List.mem_cons, List.not_mem_nil, or_false] at m
          rcases m with m | m | m | m | m
          · rw [m, e] at er; cases er
          · rw [m, ho.gd] at er; cases er
          · rw [m, ho.fd] at er; cases er
          · rw [m, ho.sd] at er; cases er
          · rw [m, ho.hd] at er; cases er
        · rw [List.mem_singleton] at z; subst z; exact ec11
      · obtain ⟨_, _, _, h4⟩ := ho.usedAt
        have h1 : s.here.length ≤ s.used := szs_len fun r hr2 => (pl.sz r (List.mem_filter.mp hr2).1).1
        have := pl.tp; have := pl.tm; have := pl.mo
        rw [made_here hup, List.length_append]; simp; omega
    refine ⟨_, rfl, s.p, CH K, dx, fs, _, rfl, ep11, T.c_House, T.n_House_top, hf.top, _, rfl, s.p, dx, fs, rfl, ep11, ff.no _ (by decide +kernel), s.p, s.hd, _, rfl, ua, fun H12 n12 => ⟨_, _, rfl, ?_⟩⟩
    have emax : (if (szs (s.made f k a c w).here : Int) > (s.top : Int) then (szs (s.made f k a c w).here : Int) else (s.top : Int)) = ((max s.top (s.used + k) : Nat) : Int) := by
      rw [hused]; split <;> omega
    rw [emax]
    have r12 : ∀ b o, H11 b = some o → H12 b = some o := fun b o eb => n12 b o eb (by simp)
    refine ⟨_, rfl, s.p, CH K, dx, fs, rfl, r12 _ _ ep11, T.c_House, T.n_House_top, (by have := hf.len; omega), ?_⟩
    obtain ⟨H13, h13⟩ : ∃ H13, H13 = L2.upd H12 s.p (.ins (CH K) dx (putF "top" (.int ((max s.top (s.used + k) : Nat) : Int)) fs)) := ⟨_, rfl⟩
    rw [← h13]
    have r13 : ∀ b, b ≠ s.p → H13 b = H12 b := fun b hb => by rw [h13]; exact upd_ne hb
    have ew13 : H13 w = some (.tup [.int (f : Int), .int (s.fill f : Int)]) := (r13 _ wp').trans (r12 _ _ ((r11 _ wh').trans (r9 _ _ ew8)))
    refine ⟨_, rfl, q1 hu a c w H13 haH hcH hwH (fun b o eb hb => ?_) (ho.made (dx := dx) (fs := fs) ff hf hup k1 k6 hu haH hcH nac (fun b o eb hb => ?_) (by rw [h13]; exact upd_same) ?_ ?_ ?_ ?_ ?_ ((r13 _ cp').trans (r12 _ _ ec11)) ew13)⟩
    · have hb2 : b ≠ s.p := fun z => hb (by rw [z]; simp)
      exact (r13 _ hb2).trans (r12 _ _ (kp11 b o eb hb))
    · have hb2 : b ≠ s.p := fun z => hb (by rw [z]; simp)
      exact (r13 _ hb2).trans (r12 _ _ (kp11 b o eb hb))
    · exact (r13 _ pg.symm).trans (r12 _ _ ((r11 _ gh').trans (r9 _ _ ((r8 _ gs').trans ((r7 _ gf').trans eg6)))))
    · exact (r13 _ pf.symm).trans (r12 _ _ ((r11 _ fh').trans (r9 _ _ ((r8 _ fs').trans ef7))))
    · exact (r13 _ ps.symm).trans (r12 _ _ ((r11 _ sh').trans (r9 _ _ es8)))
    · exact (r13 _ ph.symm).trans (r12 _ _ eh11)
    · exact (r13 _ ap').trans (r12 _ _ ((r11 _ ah').trans (r9 _ _ ((r8 _ as').trans ((r7 _ af).trans ((r6 _ ag).trans ea5))))))
end

end Lw
namespace Lw
open PySem PySem.Spec L2 FG
open PyProof.Rows hiding St
/-! ### a cell put -/
def setR (f o k : Nat) (v : V) (x : Rm) : Rm := if x.f = f ∧ x.o = o then { x with cells := x.cells.set k v } else x
def HSt.setc (s : HSt) (f o k : Nat) (v : V) : HSt := { s with rs := s.rs.map (setR f o k v) }
theorem setR_eq (f o k : Nat) (v : V) (x : Rm) : (setR f o k v x).f = x.f ∧ (setR f o k v x).o = x.o ∧ (setR f o k v x).c = x.c ∧ (setR f o k v x).w = x.w ∧ (setR f o k v x).cells.length = x.cells.length := by
  unfold setR
  split
  · exact ⟨rfl, rfl, rfl, rfl, List.length_set⟩
  · exact ⟨rfl, rfl, rfl, rfl, rfl⟩
theorem szs_set (f o k : Nat) (v : V) (l : List Rm) : szs (l.map (setR f o k v)) = szs l := by
  unfold szs
  rw [List.map_map]
  congr 1
  exact List.map_congr_left fun x _ => (setR_eq f o k v x).2.2.2.2
theorem set_giv (s : HSt) (f o k : Nat) (v : V) (g : Nat) : (s.setc f o k v).giv g = (s.giv g).map (setR f o k v) := by
  unfold HSt.giv HSt.setc
  rw [List.filter_map]
  congr 1
  refine List.filter_congr fun x _ => ?_
  show decide ((setR f o k v x).f = g) = decide (x.f = g)
  rw [(setR_eq f o k v x).1]
theorem set_here (s : HSt) (f o k : Nat) (v : V) : (s.setc f o k v).here = s.here.map (setR f o k v) := by
  unfold HSt.here HSt.setc
  rw [List.filter_map]
  congr 1
  refine List.filter_congr fun x _ => ?_
  show decide (s.ts[(setR f o k v x).f]? = some none) = decide (s.ts[x.f]? = some none)
  rw [(setR_eq f o k v x).1]
theorem set_fill (s : HSt) (f o k : Nat) (v : V) (g : Nat) : (s.setc f o k v).fill g = s.fill g := by
  unfold HSt.fill; rw [set_giv, szs_set]
theorem set_used (s : HSt) (f o k : Nat) (v : V) : (s.setc f o k v).used = s.used := by
  unfold HSt.used; rw [set_here, szs_set]
theorem map_set {β : Type} (g : Rm → β) (f o k : Nat) (v : V) (h : ∀ x, g (setR f o k v x) = g x) (l : List Rm) : (l.map (setR f o k v)).map g = l.map g := by
  rw [List.map_map]; exact List.map_congr_left fun x _ => h x
theorem nodup_ne {α β : Type} {g : α → β} {l : List α} (h : (l.map g).Nodup) {x y : α} (hx : x ∈ l) (hy : y ∈ l) (n : x ≠ y) : g x ≠ g y := by
  induction l with
  | nil => cases hx
  | cons a l ih =>
    rw [List.map_cons, List.nodup_cons] at h
    rcases List.mem_cons.mp hx with z1 | z1
    · rcases List.mem_cons.mp hy with z2 | z2
      · exact absurd (z1.trans z2.symm) n
      · rw [z1]; exact fun e => h.1 (List.mem_map.mpr ⟨y, z2, e.symm⟩)
    · rcases List.mem_cons.mp hy with z2 | z2
      · rw [z2]; exact fun e => h.1 (List.mem_map.mpr ⟨x, z1, e⟩)
      · exact ih h.2 z1 z2
theorem set_gs (s : HSt) (f o k : Nat) (v : V) : (s.setc f o k v).gs.map (·.2) ++ (s.setc f o k v).here.map (·.c) = s.gs.map (·.2) ++ s.here.map (·.c) := by
  rw [set_here, map_set (·.c) f o k v fun x => (setR_eq f o k v x).2.2.1]; rfl
theorem HPl.setc {s : HSt} (x : HPl s) (f o k : Nat) (v : V) : HPl (s.setc f o k v) := by
  have un : ∀ r ∈ (s.setc f o k v).rs, ∃ y ∈ s.rs, r = setR f o k v y := fun r hr => by
    obtain ⟨y, hy, e⟩ := List.mem_map.mp hr; exact ⟨y, hy, e.symm⟩
  refine ⟨x.gn, fun r hr => ?_, ?_, ?_, fun r hr => ?_, fun r hr => ?_, fun r hr => ?_, x.mo, by rw [set_used]; exact x.tp, x.tm, by rw [set_gs]; exact x.sp, by rw [set_gs]; exact x.s1, by rw [set_gs]; exact x.s2, x.s3, x.s4⟩
  · obtain ⟨y, hy, rfl⟩ := un r hr
    rw [(setR_eq f o k v y).1]; exact x.gm y hy
  · show s.gs.length ≤ (s.rs.map _).length
    rw [List.length_map]; exact x.gle
  · show ((s.rs.map (setR f o k v)).map fun r => (r.f, r.o)).Nodup
    rw [map_set (fun r => (r.f, r.o)) f o k v fun y => by rw [(setR_eq f o k v y).1, (setR_eq f o k v y).2.1]]
    exact x.kn
  · obtain ⟨y, hy, rfl⟩ := un r hr
    obtain ⟨e1, e2, e3, e4, e5⟩ := setR_eq f o k v y
    rw [set_fill, e1, e2, e5]; exact x.ro y hy
  · obtain ⟨y, hy, rfl⟩ := un r hr
    rw [(setR_eq f o k v y).2.2.2.2]; exact x.sz y hy
  · obtain ⟨y, hy, rfl⟩ := un r hr
    rw [(setR_eq f o k v y).1]; exact x.fl y hy
theorem HoAt.setc {C : Addr} {H H' : Hp} {s : HSt} {r : Rm} {k : Nat} {v : V} (x : HoAt C H s) (hr : r ∈ s.here) (kp : Kp [r.c] H H') (ec : H' r.c = some (.lst (r.cells.set k v))) (hv : VOk H s.rs v) : HoAt C H' (s.setc r.f r.o k v) := by
  obtain ⟨dx, fs, e, ff, hf⟩ := x.ob
  have er := x.cl r hr
  have hrs := (List.mem_filter.mp hr).1
  have ot : ∀ {b ob}, H b = some ob → b ≠ r.c → H' b = some ob := fun eb n => kp _ _ eb (by simpa using n)
  have tk : ∀ b xs, H b = some (.tup xs) → H' b = some (.tup xs) := fun b xs eb => ot eb (ne_of eb er (fun z => by cases z))
  have nin := x.pl.sp
  have hin : r.c ∈ s.here.map (·.c) := List.mem_map.mpr ⟨r, hr, rfl⟩
  have vm : ∀ {u}, VOk H s.rs u → VOk H' (s.setc r.f r.o k v).rs u := fun hu => by
    rcases hu with h | h | ⟨y, hy, q, h1, h2⟩
    · exact .inl h
    · exact .inr (.inl h)
    · refine .inr (.inr ⟨setR r.f r.o k v y, List.mem_map.mpr ⟨y, hy, rfl⟩, q, h1, ?_⟩)
      rw [(setR_eq r.f r.o k v y).1, (setR_eq r.f r.o k v y).2.1]
      exact tk _ _ h2
  refine ⟨⟨dx, fs, ot e (ne_of e er (fun z => by cases z)), ff, ⟨hf.most, hf.top, hf.gd, hf.fd, hf.sd, hf.hd, hf.len⟩⟩, ot x.lh (fun z => x.pl.s1 (List.mem_append_right _ (z ▸ hin))), ot x.lt (fun z => x.pl.s2 (List.mem_append_right _ (z ▸ hin))), x.ne, x.wf,
    ot x.gd (ne_of x.gd er (fun z => by cases z)), ?_, ?_, ?_, fun y hy => ?_, fun y hy => ?_, fun y hy => ?_, fun y hy u hu => ?_, x.pl.setc _ _ _ _⟩
  · have z : (s.setc r.f r.o k v).fdL = s.fdL := by
      unfold HSt.fdL
      refine List.map_congr_left fun y _ => ?_
      rw [set_fill]
    rw [z]; exact ot x.fd (ne_of x.fd er (fun z => by cases z))
  · have z : (s.setc r.f r.o k v).sdL = s.sdL := by
      unfold HSt.sdL
      exact map_set (fun q => (q.key, V.int (q.cells.length : Int))) _ _ _ _ (fun y => by
        obtain ⟨e1, e2, _, _, e5⟩ := setR_eq r.f r.o k v y
        unfold Rm.key
        rw [e1, e2, e5]) s.rs
    rw [z]; exact ot x.sd (ne_of x.sd er (fun z => by cases z))
  · have z : hdL (s.setc r.f r.o k v).here = hdL s.here := by
      rw [set_here]
      exact map_set (fun q => (q.key, V.ref q.c)) _ _ _ _ (fun y => by
        obtain ⟨e1, e2, e3, _, _⟩ := setR_eq r.f r.o k v y
        unfold Rm.key
        rw [e1, e2, e3]) s.here
    rw [z]; exact ot x.hd (ne_of x.hd er (fun z => by cases z))
  · have z : ((s.setc r.f r.o k v).giv y.1).map (fun q => V.ref q.w) = (s.giv y.1).map fun q => V.ref q.w := by
      rw [set_giv]; exact map_set (fun q => V.ref q.w) _ _ _ _ (fun q => by rw [(setR_eq r.f r.o k v q).2.2.2.1]) _
    rw [z]
    exact ot (x.gl y hy) (fun z => (List.nodup_append.mp nin).2.2 _ (List.mem_map.mpr ⟨y, hy, rfl⟩) _ hin z)
  · rw [set_here] at hy
    obtain ⟨q, hq, rfl⟩ := List.mem_map.mp hy
    have hqs := (List.mem_filter.mp hq).1
    rw [(setR_eq r.f r.o k v q).2.2.1]
    by_cases c : q.f = r.f ∧ q.o = r.o
    · obtain rfl := same_room x.pl hqs hrs c.1 c.2
      unfold setR
      rw [if_pos ⟨rfl, rfl⟩]; exact ec
    · have nq : q ≠ r := fun z => c ⟨by rw [z], by rw [z]⟩
      unfold setR
      rw [if_neg c]
      exact ot (x.cl q hq) (nodup_ne (List.nodup_append.mp nin).2.1 hq hr nq)
  · obtain ⟨q, hq, rfl⟩ := List.mem_map.mp hy
    obtain ⟨e1, e2, _, e4, _⟩ := setR_eq r.f r.o k v q
    rw [e1, e2, e4]; exact tk _ _ (x.wl q hq)
  · rw [set_here] at hy
    obtain ⟨q, hq, rfl⟩ := List.mem_map.mp hy
    refine vm ?_
    by_cases c : q.f = r.f ∧ q.o = r.o
    · unfold setR at hu
      rw [if_pos c] at hu
      rcases List.mem_or_eq_of_mem_set hu with z | z
      · exact x.vs q hq u z
      · rw [z]; exact hv
    · unfold setR at hu
      rw [if_neg c] at hu
      exact x.vs q hq u hu
/-- a value, or a pair that is none -/
def ValOr (H : Hp) (s : HSt) (v : V) : Prop := VOk H s.rs v ∨ ∃ q, ∃ a b : Nat, v = .ref q ∧ H q = some (.tup [.int (a : Int), .int (b : Int)]) ∧ ∀ r ∈ s.rs, ¬ (r.f = a ∧ r.o = b)
def spPut (K : PySem.W.Frag) : Sp := fun vs H Q E => ∃ s q, ∃ a b : Nat, ∃ (k : Int) (v : V), vs = [.ref s.p, .ref q, .int k, v] ∧ HoAt (CH K) H s ∧ H q = some (.tup [.int (a : Int), .int (b : Int)]) ∧ ValOr H s v ∧
  CellOut K H s q a b k (fun r H1 => (VOk H1 s.rs v → ∀ H', Kp [r.c] H1 H' → HoAt (CH K) H' (s.setc r.f r.o k.toNat v) → H' r.c = some (.lst (r.cells.set k.toNat v)) → Q .non H') ∧
    (∀ q', v = .ref q' → ∀ a' b' : Nat, H1 q' = some (.tup [.int (a' : Int), .int (b' : Int)]) → (∀ r ∈ s.rs, ¬ (r.f = a' ∧ r.o = b')) → ∀ d H', Kp [] H1 H' → H' d = some (.xd [("found", v)]) → E (.ref (He.ga K "NoValue")) (some d) H')) E
theorem VOk.th {H : Hp} {rs : List Rm} {v : V} (x : VOk H rs v) : Sh H v ∧ (∀ q, v = .ref q → Th H (.ref q) ∧ pairV H (.ref q) = true) := by
  rcases x with e | ⟨z, e⟩ | ⟨r, hr, q, e, eq⟩
  · subst e; exact ⟨.non, fun q z => by cases z⟩
  · subst e; exact ⟨.int z, fun q z => by cases z⟩
  · subst e; exact ⟨.tup eq, fun q' z => by cases z; exact way_th eq⟩
section
variable {P : Program} {w : World} {K : PySem.W.Frag} {mg : Str → Option Value} {base : Heap}
theorem ok_isval (T : Tx K mg) {fd : FuncData} {f : Addr} (F : Fun K "is_value" "House.is_value" s_House_is_value f fd) (c_is_number : Cal P w K mg base 1 "is_number" spNumG) (c_is_pair : Cal P w K mg base 2 "is_pair" spPair) :
    FnG P w K mg base 3 f fd ["self", "thing"] (spIsVal K) := by
  refine FnG.of F sc_House_is_value (fun vs H Q E h => ?_) (fun cdv A outer s H vs Q E hr h => ?_)
  · obtain ⟨s, v, rfl, _⟩ := h; rfl
  · obtain ⟨s, v, rfl, ho, h⟩ := h
    obtain ⟨dx, fs, e, ff, hf⟩ := ho.ob
    refine ⟨_, pss_cons (ps_if (PW.pt (pw_or (pt_cmpR op_isN (pv 1) (pe_non) (by first | exact nomark _ | rfl)) (pw_or1 (pt_val (gc c_is_number (hr.mono (by decide)) takes0 (pa_cons (pv 1) (pa_nil))))))) (pss_one (ps_ret (pe_bl))) (pss_nil))
      (pss_one (ps_ret (pe_and (gc c_is_pair (hr.mono (by decide)) takes0 (pa_cons (pv 1) (pa_nil))) (pe_one (pe_cmp (pc_din hr.hu (pv 1) (kfld K (pv 0))) rfl))))), ?_⟩
    rcases h with ⟨hv, q⟩ | ⟨qq, a, b, rfl, hq, hno, q⟩
    · rcases hv with rfl | ⟨z, rfl⟩ | ⟨r, hr2, qq, rfl, hq⟩
      · exact ⟨_, rfl, rfl, _, rfl, iteT (iteT (q H Kp.refl))⟩
      · exact ⟨_, rfl, rfl, _, rfl, iteF ⟨_, rfl, .int z, rfl, .int z, _, rfl, iteT (q H Kp.refl)⟩⟩
      · obtain ⟨th, tp⟩ := way_th hq
        refine ⟨_, rfl, rfl, _, rfl, iteF ⟨_, rfl, .ref qq, rfl, .tup hq, _, rfl, iteF ⟨_, rfl, .ref qq, rfl, th, fun H1 k1 => ⟨_, rfl, ?_⟩⟩⟩⟩
        rw [tp]
        have ho1 := ho.kp0 k1
        refine iteT ⟨_, rfl, _, rfl, s.p, CH K, dx, fs, _, rfl, k1 _ _ e (by simp), T.c_House, T.n_House_sizes, hf.sd, s.sd, _, rfl, DGet.t (k := r.key) ho1.sd (k1 _ _ hq (by simp)), ?_⟩
        rw [sv_in ho.pl hr2]
        exact q H1 k1
    · obtain ⟨th, tp⟩ := way_th hq
      refine ⟨_, rfl, rfl, _, rfl, iteF ⟨_, rfl, .ref qq, rfl, .tup hq, _, rfl, iteF ⟨_, rfl, .ref qq, rfl, th, fun H1 k1 => ⟨_, rfl, ?_⟩⟩⟩⟩
      rw [tp]
      have ho1 := ho.kp0 k1
      refine iteT ⟨_, rfl, _, rfl, s.p, CH K, dx, fs, _, rfl, k1 _ _ e (by simp), T.c_House, T.n_House_sizes, hf.sd, s.sd, _, rfl, DGet.t (k := [.inl (a : Int), .inl (b : Int)]) ho1.sd (k1 _ _ hq (by simp)), ?_⟩
      rw [sv_no hno]
      exact q H1 k1
theorem ok_put (T : Tx K mg) {fd : FuncData} {f : Addr} (F : Fun K "put" "House.put" s_House_put f fd) (m_need_cell : Met P w K mg base 4 (CH K) "need_cell" (spCellN K)) (m_is_value : Met P w K mg base 3 (CH K) "is_value" (spIsVal K))
    (r_NoValue : Rai P w K mg base "NoValue" (He.ga K "NoValue") ["found"]) : FnG P w K mg base 5 f fd ["self", "way", "k", "value"] (spPut K) := by
  refine FnG.of F sc_House_put (fun vs H Q E h => ?_) (fun cdv A outer s H vs Q E hr h => ?_)
  · obtain ⟨s, q, a, b, k, v, rfl, _⟩ := h; rfl
  · obtain ⟨s, q, a, b, k, v, rfl, ho, hq, hvo, o1, o2, o3⟩ := h
    obtain ⟨dx, fs, e, ff, hf⟩ := ho.ob
    refine ⟨_, pss_cons (ps_expr (gm m_need_cell (hr.mono (by decide)) tkE (pv 0) (pa_cons (pv 1) (pa_cons (pv 2) (pa_nil)))))
      (pss_cons (ps_if (pt_not (pt_val (gm m_is_value (hr.mono (by decide)) tkE (pv 0) (pa_cons (pv 3) (pa_nil))))) (pss_one (ps_rais r_NoValue (hr.mono (by decide)) tkE (pa_cons (pv 3) (pa_nil)))) (pss_nil))
      (pss_one (ps_asg (pv 3) (pg_sub (pe_dget hr.hu (kfld K (pv 0)) (pv 1) (fun _ _ => rfl)) (pv 2) set_list)))), ?_⟩
    refine ⟨_, rfl, s.p, dx, fs, rfl, e, ff.no _ (by decide +kernel), _, rfl, _, rfl, s, q, a, b, k, rfl, ho, hq, fun r hr2 ea eb hu H1 k1 => ⟨fun hk => ?_, (o1 r hr2 ea eb hu H1 k1).2⟩, o2, o3⟩
    obtain ⟨y1, y2⟩ := (o1 r hr2 ea eb hu H1 k1).1 hk
    have ho1 := ho.kp0 k1
    have e1 := k1 _ _ e (by simp)
    have hq1 := k1 _ _ hq (by simp)
    have hh := mem_here hr2 hu
    have ek : ([.inl (a : Int), .inl (b : Int)] : List L2.Key) = r.key := by unfold Rm.key; rw [ea, eb]
    have tk1 : ∀ b xs, H b = some (.tup xs) → H1 b = some (.tup xs) := fun b xs eb => k1 _ _ eb (by simp)
    rcases hvo with hv | ⟨q', a', b', rfl, hq', hno⟩
    · have hv1 := hv.kp tk1
      refine ⟨_, rfl, s.p, dx, fs, rfl, e1, ff.no _ (by decide +kernel), _, rfl, s, v, rfl, ho1, .inl ⟨hv1, fun H2 k2 => ⟨_, rfl, iteF ?_⟩⟩⟩
      have ho2 := ho1.kp0 k2
      have ec2 := ho2.cl r hh
      obtain ⟨j, rfl⟩ : ∃ j : Nat, k = j := ⟨k.toNat, by omega⟩
      have hj : j < r.cells.length := by omega
      refine ⟨_, rfl, _, rfl, s.p, CH K, dx, fs, _, rfl, k2 _ _ e1 (by simp), T.c_House, T.n_House_held, hf.hd, _, rfl, s.hd, _, rfl, by rw [← hv_in ho.pl (here_sub s) hh, ← ek]; exact DGet.t (k := [.inl (a : Int), .inl (b : Int)]) ho2.hd (k2 _ _ hq1 (by simp)), _, rfl, r.c, _, _, j, rfl, rfl, ec2, ?_, ?_⟩
      · unfold ixN
        rw [if_pos (by omega), if_pos (by omega)]; rfl
      · have kk : Kp [r.c] H2 (L2.upd H2 r.c (.lst (r.cells.set j v))) := fun b ob eb hb => by
          rw [upd_ne (by simpa using hb)]; exact eb
        exact y1 hv1 _ (fun b ob eb hb => kk b ob (k2 b ob eb (by simp)) hb) (ho2.setc hh kk upd_same (hv1.kp fun b xs eb => k2 _ _ eb (by simp))) upd_same
    · have hq1' := k1 _ _ hq' (by simp)
      refine ⟨_, rfl, s.p, dx, fs, rfl, e1, ff.no _ (by decide +kernel), _, rfl, s, .ref q', rfl, ho1, .inr ⟨q', a', b', rfl, hq1', hno, fun H2 k2 => ⟨_, rfl, iteT ⟨_, rfl, rfl, (by show 1 ≤ 10; decide), fun d hd => ?_⟩⟩⟩⟩
      exact y2 q' rfl a' b' hq1' hno d _ (k2.new hd) upd_same
end

end Lw
namespace Lw
open PySem PySem.Spec L2 FG
open PyProof.Rows hiding St
/-! ### a house made, a frame begun in it -/
def HSt.bare (p h t gd fd sd hd : Addr) (n : Nat) : HSt := ⟨p, h, t, gd, fd, sd, hd, [none], [none], [], [], n, 0⟩
def HSt.withF (s : HSt) (hs ts : List (Option Int)) : HSt := { s with hs := hs, ts := ts }
theorem begun_here {s : HSt} (x : HPl s) (wl : s.ts.length = s.hs.length) (hs : List (Option Int)) : (s.withF hs (s.ts ++ [none])).here = s.here := by
  unfold HSt.here
  refine List.filter_congr fun r hr => ?_
  have e : (s.ts ++ [none])[r.f]? = s.ts[r.f]? := List.getElem?_append_left (by have := x.fl r hr; omega)
  refine decide_eq_decide.mpr ?_
  show (s.ts ++ [none])[r.f]? = some none ↔ s.ts[r.f]? = some none
  rw [e]
theorem HoAt.begun {C : Addr} {H H' : Hp} {s : HSt} {f : Nat} (x : HoAt C H s) (kp : Kp [s.h, s.t] H H') (fr : FrAt C H' s.p s.h s.t (s.hs ++ [some (f : Int)]) (s.ts ++ [none])) : HoAt C H' (s.withF (s.hs ++ [some (f : Int)]) (s.ts ++ [none])) := by
  obtain ⟨dx, fs, e, ff, hf⟩ := x.ob
  have pl := x.pl
  have hh := begun_here pl x.wf.len (s.hs ++ [some (f : Int)])
  have ot : ∀ {b o}, H b = some o → b ≠ s.h → b ≠ s.t → H' b = some o := fun eb n1 n2 => kp _ _ eb (by simp [n1, n2])
  have nl : ∀ {b o}, H b = some o → (∀ xs, o ≠ .lst xs) → H' b = some o := fun eb n => ot eb (ne_of eb x.lh (n _)) (ne_of eb x.lt (n _))
  have tk : ∀ b xs, H b = some (.tup xs) → H' b = some (.tup xs) := fun b xs eb => nl eb (fun _ z => by cases z)
  have m1 : ∀ {b}, b ∈ s.gs.map (·.2) ++ s.here.map (·.c) → b ≠ s.h ∧ b ≠ s.t := fun hb => ⟨fun z => pl.s1 (z ▸ hb), fun z => pl.s2 (z ▸ hb)⟩
  have hus : (s.withF (s.hs ++ [some (f : Int)]) (s.ts ++ [none])).used = s.used := by unfold HSt.used; rw [hh]
  refine ⟨⟨dx, fs, nl e (fun _ z => by cases z), ff, ⟨hf.most, hf.top, hf.gd, hf.fd, hf.sd, hf.hd, hf.len⟩⟩, fr.lh, fr.lt, x.ne, fr.wf, nl x.gd (fun _ z => by cases z), nl x.fd (fun _ z => by cases z), nl x.sd (fun _ z => by cases z),
    by rw [hh]; exact nl x.hd (fun _ z => by cases z), fun y hy => ?_, fun r hr => ?_, fun r hr => tk _ _ (x.wl r hr), fun r hr v hv => ?_, ?_⟩
  · obtain ⟨n1, n2⟩ := m1 (List.mem_append_left _ (List.mem_map.mpr ⟨y, hy, rfl⟩))
    exact ot (x.gl y hy) n1 n2
  · rw [hh] at hr
    obtain ⟨n1, n2⟩ := m1 (List.mem_append_right _ (List.mem_map.mpr ⟨r, hr, rfl⟩))
    exact ot (x.cl r hr) n1 n2
  · rw [hh] at hr
    exact (x.vs r hr v hv).kp tk
  · exact ⟨pl.gn, pl.gm, pl.gle, pl.kn, pl.ro, pl.sz, fun r hr => by have := pl.fl r hr; show _ < (s.hs ++ [some (f : Int)]).length; rw [List.length_append]; omega, pl.mo, by rw [hus]; exact pl.tp, pl.tm, by rw [hh]; exact pl.sp, by rw [hh]; exact pl.s1, by rw [hh]; exact pl.s2, pl.s3, pl.s4⟩
def spHInit (K : PySem.W.Frag) : Sp := fun vs H Q _ => ∃ (p dx : Addr) (n : Nat), vs = [.ref p, nint n] ∧ H p = some (.ins (CH K) dx []) ∧ 1 ≤ n ∧ n ≤ 1000 ∧
  ∀ h t gd fd sd hd H', (∀ b ∈ [h, t, gd, fd, sd, hd], H b = none) → Kp [p] H H' → HoAt (CH K) H' (HSt.bare p h t gd fd sd hd n) → Q .non H'
theorem frF_put {fs : List (Str × V)} {h t : Addr} (ff : FrF fs h t) (f : Str) (v : V) (h1 : ¬ ("holders" : Str) = f) (h2 : ¬ ("takers" : Str) = f) (h3 : (frMeths.all fun m => decide (¬ m = f)) = true) : FrF (putF f v fs) h t := by
  refine ⟨by rw [lookup_putF, if_neg h1]; exact ff.hh, by rw [lookup_putF, if_neg h2]; exact ff.tt, fun m hm => ?_⟩
  rw [lookup_putF, if_neg (of_decide_eq_true (List.all_eq_true.mp h3 m hm))]
  exact ff.no m hm
def fsAll (h t gd fd sd hd : Addr) (n : Nat) : List (Str × V) :=
  putF "held" (.ref hd) (putF "sizes" (.ref sd) (putF "filled" (.ref fd) (putF "given" (.ref gd) (putF "top" (.int 0) (putF "most" (nint n) (putF "takers" (.ref t) (putF "holders" (.ref h) [])))))))
theorem putF_le (f : Str) (v : V) : ∀ fs : List (Str × V), (putF f v fs).length ≤ fs.length + 1
  | [] => by simp [putF]
  | (g, y) :: r => by
    unfold putF
    by_cases e : g = f
    · rw [if_pos e]; simp
    · rw [if_neg e]
      have := putF_le f v r
      simp; omega
theorem upd_two {H : Hp} {p x : Addr} {u v : HO} (hx : H x = none) : ∀ b o, b ≠ p → H b = some o → L2.upd (L2.upd H x u) p v b = some o := fun b o n e => (upd_ne n).trans ((upd_ne (ne_of_none e hx)).trans e)
theorem upd_two_x {H : Hp} {p x : Addr} {u v : HO} (nx : x ≠ p) : L2.upd (L2.upd H x u) p v x = some u := (upd_ne nx).trans upd_same
theorem ho_bare {C : Addr} {H : Hp} {p h t gd fd sd hd dx : Addr} {n : Nat} (e : H p = some (.ins C dx (fsAll h t gd fd sd hd n))) (lh : H h = some (.lst [.non])) (lt : H t = some (.lst [.non])) (ne : h ≠ t) (eg : H gd = some (.dK [])) (ef : H fd = some (.dK []))
    (es : H sd = some (.dT [])) (eh : H hd = some (.dT [])) (n1 : gd ≠ fd) (n2 : sd ≠ hd) (h2 : n ≤ 1000) : HoAt C H (HSt.bare p h t gd fd sd hd n) := by
  have ff : FrF (fsAll h t gd fd sd hd n) h t := by
    unfold fsAll
    exact frF_put (frF_put (frF_put (frF_put (frF_put (frF_put (frF0 h t) _ _ (by decide +kernel) (by decide +kernel) (by decide +kernel)) _ _ (by decide +kernel) (by decide +kernel) (by decide +kernel)) _ _ (by decide +kernel) (by decide +kernel) (by decide +kernel)) _ _ (by decide +kernel) (by decide +kernel) (by decide +kernel)) _ _ (by decide +kernel) (by decide +kernel) (by decide +kernel)) _ _ (by decide +kernel) (by decide +kernel) (by decide +kernel)
  refine ⟨⟨dx, _, e, ff, ?_⟩, lh, lt, ne, wf0, eg, ef, es, eh, (fun x hx => by cases hx), (fun r hr => by cases hr), (fun r hr => by cases hr), (fun r hr => by cases hr), ?_⟩
  · unfold fsAll
    refine ⟨?_, ?_, ?_, ?_, ?_, ?_, ?_⟩
    · rw [lookup_putF, if_neg (by decide +kernel), lookup_putF, if_neg (by decide +kernel), lookup_putF, if_neg (by decide +kernel), lookup_putF, if_neg (by decide +kernel), lookup_putF, if_neg (by decide +kernel), lookup_putF, if_pos rfl]; rfl
    · rw [lookup_putF, if_neg (by decide +kernel), lookup_putF, if_neg (by decide +kernel), lookup_putF, if_neg (by decide +kernel), lookup_putF, if_neg (by decide +kernel), lookup_putF, if_pos rfl]; rfl
    · rw [lookup_putF, if_neg (by decide +kernel), lookup_putF, if_neg (by decide +kernel), lookup_putF, if_neg (by decide +kernel), lookup_putF, if_pos rfl]; rfl
    · rw [lookup_putF, if_neg (by decide +kernel), lookup_putF, if_neg (by decide +kernel), lookup_putF, if_pos rfl]; rfl
    · rw [lookup_putF, if_neg (by decide +kernel), lookup_putF, if_pos rfl]; rfl
    · rw [lookup_putF, if_pos rfl]; rfl
    · refine Nat.le_trans (putF_le _ _ _) ?_
      refine Nat.le_trans (Nat.add_le_add_right (putF_le _ _ _) 1) ?_
      refine Nat.le_trans (Nat.add_le_add_right (Nat.add_le_add_right (putF_le _ _ _) 1) 1) ?_
      refine Nat.le_trans (Nat.add_le_add_right (Nat.add_le_add_right (Nat.add_le_add_right (putF_le _ _ _) 1) 1) 1) ?_
      have h1 := putF_le "top" (.int 0) (putF "most" (nint n) (putF "takers" (.ref t) (putF "holders" (.ref h) [])))
      have h2 := putF_le "most" (nint n) (putF "takers" (.ref t) (putF "holders" (.ref h) []))
      have h3 := putF_le "takers" (.ref t) (putF "holders" (.ref h) [])
      have h4 := putF_le "holders" (.ref h) []
      have h5 : ([] : List (Str × V)).length = 0 := rfl
      omega
  · exact ⟨List.nodup_nil, (fun r hr => by cases hr), Nat.le_refl _, List.nodup_nil, (fun r hr => by cases hr), (fun r hr => by cases hr), (fun r hr => by cases hr), h2, Nat.le_refl _, Nat.zero_le _, List.nodup_nil, (fun z => by cases z), (fun z => by cases z), n1, n2⟩
section
variable {P : Program} {w : World} {K : PySem.W.Frag} {mg : Str → Option Value} {base : Heap}
theorem ok_hinit (T : Tx K mg) {fd : FuncData} {f : Addr} (F : Fun K "__init__" "House.__init__" s_House___init__ f fd) (c_is_whole : Cal P w K mg base 2 "is_whole" spWhole) (u_Frames___init__ : Unb P w K mg base 1 "Frames" "__init__" (spFInit (CH K))) :
    FnG P w K mg base 3 f fd ["self", "limit"] (spHInit K) := by
  obtain ⟨tM, hg_MOST_CELLS⟩ := T.i_MOST_CELLS
  refine FnG.of F sc_House___init__ (fun vs H Q E h => ?_) (fun cdv A outer s H vs Q E hr h => ?_)
  · obtain ⟨p, dx, n, rfl, _⟩ := h; rfl
  · obtain ⟨p, dx, n, rfl, hp, n1, n2, q⟩ := h
    refine ⟨_, pss_cons (ps_if (pt_not (pt_val (gc c_is_whole (hr.mono (by decide)) takes0 (pa_cons (pv 1) (pa_cons (pe_int) (pa_cons (pe_glob (v := .int 1000) rfl hg_MOST_CELLS ⟨_, rfl⟩) (pa_nil))))))) (pss_one (ps_never)) (pss_nil))
      (pss_cons (ps_expr (gu u_Frames___init__ (hr.mono (by decide)) takes0 (pa_cons (pv 0) (pa_nil))))
      (pss_cons (ksFld K (pv 0) (pv 1))
      (pss_cons (ksFld K (pv 0) (pe_int))
      (pss_cons (ksFld K (pv 0) (pe_dnewK))
      (pss_cons (ksFld K (pv 0) (pe_dnewK))
      (pss_cons (ksFld K (pv 0) pe_dnewT)
      (pss_one (ksFld K (pv 0) pe_dnewT)))))))), ?_⟩
    refine ⟨_, rfl, (n : Int), 1, 1000, rfl, _, rfl, ?_⟩
    have z : decide ((1 : Int) ≤ (n : Int) ∧ (n : Int) ≤ 1000) = true := decide_eq_true ⟨by omega, by omega⟩
    rw [z]
    refine iteF ⟨_, rfl, p, dx, rfl, hp, fun h t H1 hh ht nh nt k1 fr e1 => ?_⟩
    obtain ⟨_, lh1, lt1, ne, _⟩ := fr
    have out : ∀ {b}, H1 b = none → H b = none := fun {b} hb => by
      cases q : H b with
      | none => rfl
      | some o =>
        by_cases c : b = p
        · rw [c, e1] at hb; cases hb
        · rw [k1 b o q (by simpa using c)] at hb; cases hb
    refine ⟨_, rfl, _, rfl, p, CH K, dx, _, rfl, e1, T.c_House, T.n_House_most, (by show 2 < 1000; decide), ?_⟩
    refine ⟨_, rfl, p, CH K, dx, _, rfl, upd_same, T.c_House, T.n_House_top, (by show 3 < 1000; decide), ?_⟩
    have m0 : ∀ b o, b ≠ p → H1 b = some o → L2.upd (L2.upd H1 p (.ins (CH K) dx (putF "most" (nint n) (putF "takers" (.ref t) (putF "holders" (.ref h) []))))) p (.ins (CH K) dx (putF "top" (.int 0) (putF "most" (nint n) (putF "takers" (.ref t) (putF "holders" (.ref h) []))))) b = some o :=
      fun b o nb eb => (upd_ne nb).trans ((upd_ne nb).trans eb)
    have f0 : ∀ b, L2.upd (L2.upd H1 p (.ins (CH K) dx (putF "most" (nint n) (putF "takers" (.ref t) (putF "holders" (.ref h) []))))) p (.ins (CH K) dx (putF "top" (.int 0) (putF "most" (nint n) (putF "takers" (.ref t) (putF "holders" (.ref h) []))))) b = none → H1 b = none ∧ b ≠ p :=
      fun b nb => by
        have np : b ≠ p := fun c => by rw [c, upd_same] at nb; cases nb
        rw [upd_ne np, upd_ne np] at nb; exact ⟨nb, np⟩
    have e2 : L2.upd (L2.upd H1 p (.ins (CH K) dx (putF "most" (nint n) (putF "takers" (.ref t) (putF "holders" (.ref h) []))))) p (.ins (CH K) dx (putF "top" (.int 0) (putF "most" (nint n) (putF "takers" (.ref t) (putF "holders" (.ref h) []))))) p = some (.ins (CH K) dx (putF "top" (.int 0) (putF "most" (nint n) (putF "takers" (.ref t) (putF "holders" (.ref h) []))))) := upd_same
    generalize L2.upd (L2.upd H1 p (.ins (CH K) dx (putF "most" (nint n) (putF "takers" (.ref t) (putF "holders" (.ref h) []))))) p (.ins (CH K) dx (putF "top" (.int 0) (putF "most" (nint n) (putF "takers" (.ref t) (putF "holders" (.ref h) []))))) = H2 at *
    -- the four tables
    refine fun gd hgd => ⟨_, rfl, p, CH K, dx, _, rfl, (upd_ne (f0 _ hgd).2.symm).trans e2, T.c_House, T.n_House_given, (by show 4 < 1000; decide), ?_⟩
    have ng := (f0 _ hgd).2
    have m1 := upd_two (p := p) (u := .dK []) (v := .ins (CH K) dx (putF "given" (.ref gd) (putF "top" (.int 0) (putF "most" (nint n) (putF "takers" (.ref t) (putF "holders" (.ref h) [])))))) hgd
    have g1 := upd_two_x (H := H2) (u := .dK []) (v := .ins (CH K) dx (putF "given" (.ref gd) (putF "top" (.int 0) (putF "most" (nint n) (putF "takers" (.ref t) (putF "holders" (.ref h) [])))))) ng
    have e3 : L2.upd (L2.upd H2 gd (.dK [])) p (.ins (CH K) dx (putF "given" (.ref gd) (putF "top" (.int 0) (putF "most" (nint n) (putF "takers" (.ref t) (putF "holders" (.ref h) [])))))) p = _ := upd_same
    have f1 : ∀ b, L2.upd (L2.upd H2 gd (.dK [])) p (.ins (CH K) dx (putF "given" (.ref gd) (putF "top" (.int 0) (putF "most" (nint n) (putF "takers" (.ref t) (putF "holders" (.ref h) [])))))) b = none → H2 b = none ∧ b ≠ p ∧ b ≠ gd := fun b nb => by
      have np : b ≠ p := fun c => by rw [c, upd_same] at nb; cases nb
      rw [upd_ne np] at nb
      have n2 : b ≠ gd := fun c => by rw [c, upd_same] at nb; cases nb
      rw [upd_ne n2] at nb; exact ⟨nb, np, n2⟩
    generalize L2.upd (L2.upd H2 gd (.dK [])) p (.ins (CH K) dx (putF "given" (.ref gd) (putF "top" (.int 0) (putF "most" (nint n) (putF "takers" (.ref t) (putF "holders" (.ref h) [])))))) = H3 at *
    refine fun fd hfd => ⟨_, rfl, p, CH K, dx, _, rfl, (upd_ne (f1 _ hfd).2.1.symm).trans e3, T.c_House, T.n_House_filled, (by show 5 < 1000; decide), ?_⟩
    obtain ⟨hfd2, nf, nfg⟩ := f1 _ hfd
    have m2 := upd_two (p := p) (u := .dK []) (v := .ins (CH K) dx (putF "filled" (.ref fd) (putF "given" (.ref gd) (putF "top" (.int 0) (putF "most" (nint n) (putF "takers" (.ref t) (putF "holders" (.ref h) []))))))) hfd
    have g2 := upd_two_x (H := H3) (u := .dK []) (v := .ins (CH K) dx (putF "filled" (.ref fd) (putF "given" (.ref gd) (putF "top" (.int 0) (putF "most" (nint n) (putF "takers" (.ref t) (putF "holders" (.ref h) []))))))) nf
    have e4 : L2.upd (L2.upd H3 fd (.dK [])) p (.ins (CH K) dx (putF "filled" (.ref fd) (putF "given" (.ref gd) (putF "top" (.int 0) (putF "most" (nint n) (putF "takers" (.ref t) (putF "holders" (.ref h) []))))))) p = _ := upd_same
    have f2 : ∀ b, L2.upd (L2.upd H3 fd (.dK [])) p (.ins (CH K) dx (putF "filled" (.ref fd) (putF "given" (.ref gd) (putF "top" (.int 0) (putF "most" (nint n) (putF "takers" (.ref t) (putF "holders" (.ref h) []))))))) b = none → H3 b = none ∧ b ≠ p := fun b nb => by
      have np : b ≠ p := fun c => by rw [c, upd_same] at nb; cases nb
      rw [upd_ne np] at nb
      have n2 : b ≠ fd := fun c => by rw [c, upd_same] at nb; cases nb
      rw [upd_ne n2] at nb; exact ⟨nb, np⟩
    generalize L2.upd (L2.upd H3 fd (.dK [])) p (.ins (CH K) dx (putF "filled" (.ref fd) (putF "given" (.ref gd) (putF "top" (.int 0) (putF "most" (nint n) (putF "takers" (.ref t) (putF "holders" (.ref h) []))))))) = H4 at *
    refine fun sd hsd => ⟨_, rfl, p, CH K, dx, _, rfl, (upd_ne (f2 _ hsd).2.symm).trans e4, T.c_House, T.n_House_sizes, (by show 6 < 1000; decide), ?_⟩
    obtain ⟨hsd3, nsd⟩ := f2 _ hsd
    have m3 := upd_two (p := p) (u := .dT []) (v := .ins (CH K) dx (putF "sizes" (.ref sd) (putF "filled" (.ref fd) (putF "given" (.ref gd) (putF "top" (.int 0) (putF "most" (nint n) (putF "takers" (.ref t) (putF "holders" (.ref h) [])))))))) hsd
    have g3 := upd_two_x (H := H4) (u := .dT []) (v := .ins (CH K) dx (putF "sizes" (.ref sd) (putF "filled" (.ref fd) (putF "given" (.ref gd) (putF "top" (.int 0) (putF "most" (nint n) (putF "takers" (.ref t) (putF "holders" (.ref h) [])))))))) nsd
    have e5 : L2.upd (L2.upd H4 sd (.dT [])) p (.ins (CH K) dx (putF "sizes" (.ref sd) (putF "filled" (.ref fd) (putF "given" (.ref gd) (putF "top" (.int 0) (putF "most" (nint n) (putF "takers" (.ref t) (putF "holders" (.ref h) [])))))))) p = _ := upd_same
    have f3 : ∀ b, L2.upd (L2.upd H4 sd (.dT [])) p (.ins (CH K) dx (putF "sizes" (.ref sd) (putF "filled" (.ref fd) (putF "given" (.ref gd) (putF "top" (.int 0) (putF "most" (nint n) (putF "takers" (.ref t) (putF "holders" (.ref h) [])))))))) b = none → H4 b = none ∧ b ≠ p ∧ b ≠ sd := fun b nb => by
      have np : b ≠ p := fun c => by rw [c, upd_same] at nb; cases nb
      rw [upd_ne np] at nb
      have n2 : b ≠ sd := fun c => by rw [c, upd_same] at nb; cases nb
      rw [upd_ne n2] at nb; exact ⟨nb, np, n2⟩
    generalize L2.upd (L2.upd H4 sd (.dT [])) p (.ins (CH K) dx (putF "sizes" (.ref sd) (putF "filled" (.ref fd) (putF "given" (.ref gd) (putF "top" (.int 0) (putF "most" (nint n) (putF "takers" (.ref t) (putF "holders" (.ref h) [])))))))) = H5 at *
    refine fun hd hhd => ⟨_, rfl, p, CH K, dx, _, rfl, (upd_ne (f3 _ hhd).2.1.symm).trans e5, T.c_House, T.n_House_held, (by show 7 < 1000; decide), ?_⟩
    obtain ⟨hhd4, nhd, nhs⟩ := f3 _ hhd
    have m4 := upd_two (p := p) (u := .dT []) (v := .ins (CH K) dx (fsAll h t gd fd sd hd n)) hhd
    have g4 := upd_two_x (H := H5) (u := .dT []) (v := .ins (CH K) dx (fsAll h t gd fd sd hd n)) nhd
    have e6 : L2.upd (L2.upd H5 hd (.dT [])) p (.ins (CH K) dx (fsAll h t gd fd sd hd n)) p = _ := upd_same
    have all5 : ∀ b o, b ≠ p → H1 b = some o → L2.upd (L2.upd H5 hd (.dT [])) p (.ins (CH K) dx (fsAll h t gd fd sd hd n)) b = some o := fun b o nb eb => m4 b o nb (m3 b o nb (m2 b o nb (m1 b o nb (m0 b o nb eb))))
    have hgd1 := (f0 _ hgd).1
    have hfd1 := (f0 _ hfd2).1
    have hsd1 := (f0 _ (f1 _ hsd3).1).1
    have hhd1 := (f0 _ (f1 _ (f2 _ hhd4).1).1).1
    refine q h t gd fd sd hd _ (fun b hb => ?_) (fun b o eb hb => all5 b o (by simpa using hb) (k1 b o eb hb)) (ho_bare e6 (all5 _ _ nh lh1) (all5 _ _ nt lt1) ne (m4 _ _ ng (m3 _ _ ng (m2 _ _ ng g1))) (m4 _ _ nf (m3 _ _ nf g2)) (m4 _ _ nsd g3) g4 nfg.symm nhs.symm n2)
    simp only [List.mem_cons, List.not_mem_nil, or_false] at hb
    rcases hb with rfl | rfl | rfl | rfl | rfl | rfl
    · exact hh
    · exact ht
    · exact out hgd1
    · exact out hfd1
    · exact out hsd1
    · exact out hhd1
end

end Lw
namespace Lw
open PySem PySem.Spec L2 FG
open PyProof.Rows hiding St
/-! ### a frame ended in a house -/
theorem taken_none {f : Nat} : ∀ (ks : List Nat) (ts : List (Option Int)) (i : Nat), (taken ts ks f)[i]? = some none ↔ ts[i]? = some none ∧ i ∉ ks := by
  intro ks
  induction ks with
  | nil => intro ts i; simp [taken]
  | cons k ks ih =>
    intro ts i
    have e : taken ts (k :: ks) f = taken (ts.set k (some (f : Int))) ks f := rfl
    rw [e, ih, List.getElem?_set]
    by_cases h : k = i
    · subst h
      rw [if_pos rfl]
      by_cases h2 : k < ts.length
      · simp [h2]
      · simp [h2]
    · rw [if_neg h]
      constructor
      · rintro ⟨a, b⟩; exact ⟨a, by simp [b, Ne.symm h]⟩
      · rintro ⟨a, b⟩; exact ⟨a, fun z => b (by simp [z])⟩
theorem ended_here (s : HSt) (ks : List Nat) (f : Nat) : (s.withF s.hs (taken s.ts ks f)).here = s.here.filter fun r => decide (r.f ∉ ks) := by
  unfold HSt.here
  rw [List.filter_filter]
  refine List.filter_congr fun r _ => ?_
  show decide ((taken s.ts ks f)[r.f]? = some none) = (decide (r.f ∉ ks) && decide (s.ts[r.f]? = some none))
  rw [Bool.eq_iff_iff, decide_eq_true_eq, Bool.and_eq_true, decide_eq_true_eq, decide_eq_true_eq, taken_none]
  exact and_comm
theorem szs_sub {l m : List Rm} (h : l.Sublist m) : szs l ≤ szs m := by
  induction h with
  | slnil => exact Nat.le_refl _
  | @cons l₁ l₂ r _ ih => unfold szs at ih ⊢; rw [List.map_cons, List.sum_cons]; omega
  | cons_cons r _ ih => unfold szs at ih ⊢; rw [List.map_cons, List.sum_cons, List.map_cons, List.sum_cons]; omega
theorem HoAt.ended {C : Addr} {H H' : Hp} {s : HSt} {ks : List Nat} {f : Nat} (x : HoAt C H s) (kp : Kp [s.t, s.hd] H H') (et : H' s.t = some (.lst ((taken s.ts ks f).map enc)))
    (eh : H' s.hd = some (.dT (hdL (s.here.filter fun r => decide (r.f ∉ ks))))) : HoAt C H' (s.withF s.hs (taken s.ts ks f)) := by
  obtain ⟨dx, fs, e, ff, hf⟩ := x.ob
  have pl := x.pl
  have hh := ended_here s ks f
  have sub : (s.withF s.hs (taken s.ts ks f)).here.Sublist s.here := by rw [hh]; exact List.filter_sublist
  have ot : ∀ {b o}, H b = some o → b ≠ s.t → b ≠ s.hd → H' b = some o := fun eb n1 n2 => kp _ _ eb (by simp [n1, n2])
  have nl : ∀ {b o}, H b = some o → (∀ xs, o ≠ .lst xs) → (∀ q, o ≠ .dT q) → H' b = some o := fun eb n n2 => ot eb (ne_of eb x.lt (n _)) (ne_of eb x.hd (n2 _))
  have tk : ∀ b xs, H b = some (.tup xs) → H' b = some (.tup xs) := fun b xs eb => nl eb (fun _ z => by cases z) (fun _ z => by cases z)
  have l1 : ∀ {b xs}, H b = some (.lst xs) → b ≠ s.t → H' b = some (.lst xs) := fun eb n => ot eb n (ne_of eb x.hd (fun z => by cases z))
  have sub2 : ∀ b ∈ (s.withF s.hs (taken s.ts ks f)).gs.map (·.2) ++ (s.withF s.hs (taken s.ts ks f)).here.map (·.c), b ∈ s.gs.map (·.2) ++ s.here.map (·.c) := fun b hb => by
    rcases List.mem_append.mp hb with z | z
    · exact List.mem_append_left _ z
    · exact List.mem_append_right _ ((sub.map _).subset z)
  have hus : (s.withF s.hs (taken s.ts ks f)).used ≤ s.used := szs_sub sub
  refine ⟨⟨dx, fs, nl e (fun _ z => by cases z) (fun _ z => by cases z), ff, ⟨hf.most, hf.top, hf.gd, hf.fd, hf.sd, hf.hd, hf.len⟩⟩, l1 x.lh x.ne, et, x.ne, x.wf.taken ks f, nl x.gd (fun _ z => by cases z) (fun _ z => by cases z), nl x.fd (fun _ z => by cases z) (fun _ z => by cases z),
    ot x.sd (ne_of x.sd x.lt (fun z => by cases z)) pl.s4, by rw [hh]; exact eh, fun y hy => l1 (x.gl y hy) (fun z => pl.s2 (List.mem_append_left _ (List.mem_map.mpr ⟨y, hy, z⟩))), fun r hr => ?_, fun r hr => tk _ _ (x.wl r hr), fun r hr v hv => (x.vs r (sub.subset hr) v hv).kp tk, ?_⟩
  · have hr2 := sub.subset hr
    exact l1 (x.cl r hr2) (fun z => pl.s2 (List.mem_append_right _ (List.mem_map.mpr ⟨r, hr2, z⟩)))
  · exact ⟨pl.gn, pl.gm, pl.gle, pl.kn, pl.ro, pl.sz, pl.fl, pl.mo, Nat.le_trans hus pl.tp, pl.tm, ((List.Sublist.refl _).append (sub.map _)).nodup pl.sp, fun z => pl.s1 (sub2 _ z), fun z => pl.s2 (sub2 _ z), pl.s3, pl.s4⟩
def spHClear (K : PySem.W.Frag) : Sp := fun vs H Q _ => ∃ (s : HSt) (L : List Rm) (f : Nat), vs = [.ref s.p, nint f] ∧ (∃ dx fs, H s.p = some (.ins (CH K) dx fs) ∧ HoF fs s) ∧ HPl s ∧ H s.gd = some (.dK s.gdL) ∧ (∀ x ∈ s.gs, H x.2 = some (.lst ((s.giv x.1).map fun r => .ref r.w))) ∧
  (∀ r ∈ s.rs, H r.w = some (.tup [.int (r.f : Int), .int (r.o : Int)])) ∧ H s.hd = some (.dT (hdL L)) ∧ L.Sublist s.rs ∧ (∀ r ∈ s.rs, r.f = f → r ∈ L) ∧
  ∀ H', Kp [s.hd] H H' → H' s.hd = some (.dT (hdL (L.filter fun r => decide (r.f ≠ f)))) → Q .non H'
def spHFin (K : PySem.W.Frag) : Sp := fun vs H Q _ => ∃ (s : HSt) (n : Nat), vs = [.ref s.p, nint n] ∧ HoAt (CH K) H s ∧ s.ts[n]? = some none ∧ 0 < n ∧
  ∀ l H', H l = none → Kp [s.t, s.hd] H H' → HoAt (CH K) H' (s.withF s.hs (taken s.ts (fin s.hs s.ts n) n)) → H' l = some (.lst ((fin s.hs s.ts n).map nint)) → Q (.ref l) H'
def pk (r : Rm) : Nat × Nat := (r.f, r.o)
theorem key_pk {r q : Rm} : r.key = q.key ↔ pk r = pk q := by
  constructor
  · intro h; obtain ⟨a, b⟩ := key_inj h; unfold pk; rw [a, b]
  · intro h; unfold pk at h; injection h with a b; unfold Rm.key; rw [a, b]
theorem stand_nd (ts : List (Option Int)) : (stand ts).Nodup := by
  unfold stand
  exact List.filter_sublist.nodup List.nodup_range
theorem fin_nd (hs ts : List (Option Int)) (f : Nat) : (fin hs ts f).Nodup := by
  unfold fin
  exact List.filter_sublist.nodup ((List.reverse_perm _).symm.nodup (stand_nd ts))
section
variable {P : Program} {w : World} {K : PySem.W.Frag} {mg : Str → Option Value} {base : Heap}
theorem ok_hclear (T : Tx K mg) {fd : FuncData} {f : Addr} (F : Fun K "clear" "House.clear" s_House_clear f fd) : FnG P w K mg base 1 f fd ["self", "frame"] (spHClear K) := by
  refine FnG.of F sc_House_clear (fun vs H Q E h => ?_) (fun cdv A outer s H vs Q E hr h => ?_)
  · obtain ⟨s, L, f, rfl, _⟩ := h; rfl
  · obtain ⟨s, L, f, rfl, ⟨dx, fs, e, hf⟩, pl, egd, egl, ewl, ehd, sub, hall, q⟩ := h
    refine ⟨_, pss_one (ps_for (passes_of rfl) rfl (kiL K (pe_dget2 hr.hu (kfld K (pv 0)) (pv 1) (pe_lst (pa_nil)) ⟨rfl, rfl, rfl, rfl⟩)) (pg_name (i := 2) sc_House_clear.nd rfl (by first | exact Or.inl rfl | exact Or.inr rfl))
        (pss_one (ps_expr (kbm K PySem.F.plainAttrs_dict PySem.F.slot_dict_pop PySem.F.type_dict_pop (mt_popT1 hr.hu) (kfld K (pv 0)) (pa_cons (pv 2) (pa_nil)))))), ?_⟩
    refine ⟨_, rfl, s.p, CH K, dx, fs, _, rfl, e, T.c_House, T.n_House_given, hf.gd, s.gd, rfl, .inl ⟨_, .inl egd⟩, _, rfl, by decide, fun l0 hl0 => ?_⟩
    have n1 := (Kp.refl (S := []) (H := H)).new (o := .lst []) hl0
    have e01 : L2.upd H l0 (.lst []) l0 = some (.lst []) := upd_same
    generalize L2.upd H l0 (.lst []) = H1 at *
    obtain ⟨o, lx, hdg, eo, elx⟩ : ∃ o lx, DGet H1 s.gd (nint f) o ∧ o.getD (.ref l0) = .ref lx ∧ H1 lx = some (.lst ((s.giv f).map fun r => .ref r.w)) := by
      by_cases hg : f ∈ s.gs.map (·.1)
      · obtain ⟨⟨f', a⟩, hx, rfl⟩ := List.mem_map.mp hg
        exact ⟨_, a, DGet.k (k := .inl (f' : Int)) (n1 _ _ egd (by simp)), by rw [gv_in pl hx]; rfl, n1 _ _ (egl _ hx) (by simp)⟩
      · exact ⟨_, l0, DGet.k (k := .inl (f : Int)) (n1 _ _ egd (by simp)), by rw [gv_no hg]; rfl, by rw [giv_no pl hg]; exact e01⟩
    refine ⟨o, hdg, ?_⟩
    rw [eo]
    have nlx : lx ≠ s.hd := ne_of elx (n1 _ _ ehd (by simp)) (fun z => by cases z)
    have ph : s.p ≠ s.hd := ne_of e ehd (fun z => by cases z)
    have gsub : (s.giv f).Sublist s.rs := List.filter_sublist
    have gnd : ((s.giv f).map pk).Nodup := (gsub.map _).nodup pl.kn
    refine ⟨lx, rfl, ⟨_, SqL.of elx⟩, for_list (K := K) (a := lx) (xs := (s.giv f).map fun r => V.ref r.w) (fun i σ H2 => ∃ v, σ = [some (.ref s.p), some (nint f), v] ∧ Kp [s.hd] H1 H2 ∧ H2 s.hd = some (.dT (hdL (L.filter fun r => decide (pk r ∉ ((s.giv f).take i).map pk)))))
      ⟨none, rfl, Kp.refl, ?_⟩ (fun i σ H2 _ ⟨_, _, k, _⟩ => SqL.of (k _ _ elx (by simpa using nlx))) ?_ ?_⟩
    · rw [n1 _ _ ehd (by simp)]
      congr 3
      exact (List.filter_eq_self.mpr fun r _ => by simp).symm
    · rintro i x σ H2 hx ⟨v, rfl, k2, eh2⟩
      obtain ⟨r, hr, rfl⟩ : ∃ r, (s.giv f)[i]? = some r ∧ x = .ref r.w := by
        rw [List.getElem?_map] at hx
        cases ek : (s.giv f)[i]? with
        | none => rw [ek] at hx; cases hx
        | some r => rw [ek] at hx; exact ⟨r, rfl, (Option.some.inj hx).symm⟩
      obtain ⟨hi, er⟩ := List.getElem?_eq_some_iff.mp hr
      have hm : r ∈ s.giv f := List.mem_of_getElem? hr
      obtain ⟨hrs, hrf⟩ := mem_giv.mp hm
      have hnot : pk r ∉ ((s.giv f).take i).map pk := by
        intro z
        have h1 : ((s.giv f).map pk)[i]? = some (pk r) := by rw [List.getElem?_map, hr]; rfl
        rw [List.map_take] at z
        obtain ⟨j, hj, ej⟩ := List.mem_iff_getElem.mp z
        rw [List.getElem_take] at ej
        rw [List.length_take] at hj
        obtain ⟨h3, h4⟩ := List.getElem?_eq_some_iff.mp h1
        have := (List.getElem_inj gnd).mp (ej.trans h4.symm)
        omega
      have hmL : r ∈ L.filter fun r => decide (pk r ∉ ((s.giv f).take i).map pk) := List.mem_filter.mpr ⟨hall r hrs hrf, decide_eq_true hnot⟩
      refine ⟨_, rfl, s.p, CH K, dx, fs, _, rfl, k2 _ _ (n1 _ _ e (by simp)) (by simpa using ph), T.c_House, T.n_House_held, hf.hd, .inr (.inr (.inl ⟨rfl, .inr ⟨_, eh2⟩⟩)), _, rfl, s.hd, _, r.key, r.w, _, rfl, rfl, eh2, k2 _ _ (n1 _ _ (ewl r hrs) (by simp)) ?_, hv_in pl (List.filter_sublist.trans sub) hmL, _, rfl, ?_, ?_⟩
      · have := ne_of (ewl r hrs) ehd (fun z => by cases z)
        simpa using this
      · intro b ob eb hb
        have hb2 : b ≠ s.hd := by simpa using hb
        exact (upd_ne hb2).trans (k2 b ob eb hb)
      · rw [upd_same, drop_hd, List.filter_filter]
        congr 3
        refine List.filter_congr fun y _ => ?_
        rw [List.take_succ_eq_append_getElem hi, List.map_append, er]
        rw [Bool.eq_iff_iff, Bool.and_eq_true, decide_eq_true_eq, decide_eq_true_eq, decide_eq_true_eq, List.mem_append, List.map_cons, List.map_nil, List.mem_singleton, not_or, Ne, key_pk]
        exact and_comm
    · rintro σ H2 ⟨v, rfl, k2, eh2⟩
      refine q H2 (fun b ob eb hb => k2 b ob (n1 b ob eb (by simp)) hb) ?_
      rw [eh2, List.length_map, List.take_length]
      congr 3
      refine List.filter_congr fun r hr => ?_
      rw [decide_eq_decide]
      have hrs := sub.subset hr
      constructor
      · intro h z; exact h (List.mem_map.mpr ⟨r, mem_giv.mpr ⟨hrs, z⟩, rfl⟩)
      · intro h z
        obtain ⟨y, hy, ey⟩ := List.mem_map.mp z
        obtain ⟨hy1, hy2⟩ := mem_giv.mp hy
        exact h ((congrArg Prod.fst ey).symm.trans hy2)
theorem ok_hfinish (T : Tx K mg) {fd : FuncData} {f : Addr} (F : Fun K "finish" "Frames.finish" s_House_finish f fd) (m_need_standing : Met P w K mg base 4 (CH K) "need_standing" (spStd (CH K))) (m_standing : Met P w K mg base 1 (CH K) "standing" (spStanding (CH K)))
    (m_row : Met P w K mg base 4 (CH K) "row" (spRow (CH K))) (m_clear : Met P w K mg base 1 (CH K) "clear" (spHClear K)) : FnG P w K mg base 5 f fd ["self", "frame"] (spHFin K) := by
  refine FnG.of F sc_House_finish (fun vs H Q E h => ?_) (fun cdv A outer s H vs Q E hr h => ?_)
  · obtain ⟨s, n, rfl, _⟩ := h; rfl
  · obtain ⟨s, n, rfl, ho, hn, h0, q⟩ := h
    have fr := ho.fr
    obtain ⟨dx, fs, e, ff, hf⟩ := ho.ob
    have pl := ho.pl
    have lt := ho.lt
    have ws := ho.wf.small
    have wl := ho.wf.len
    have pt : s.p ≠ s.t := ne_of e lt (fun z => by cases z)
    have ph : s.p ≠ s.hd := ne_of e ho.hd (fun z => by cases z)
    refine ⟨_, pss_cons (ps_expr (gm m_need_standing (hr.mono (by decide)) takes0 (pv 0) (pa_cons (pv 1) (pa_nil))))
      (pss_cons (ps_if (pt_cmpR op_eq (pv 1) (pe_int) (by first | exact nomark _ | rfl)) (pss_one (ps_never)) (pss_nil))
      (pss_cons (ps_setLc (i := 2) (own := [("one", 3)]) (g := gName 3) rfl sc_House_finish.nd rfl rfl (sw_true rfl rfl rfl (by decide +kernel)) (kiRev K rfl T.z_reversed (pa_cons (gm0 m_standing (hr.mono (by decide)) takes0 (pv 0)) (pa_nil))) (blkOk_by (own := [("one", 3)]) (N := ["self", "frame", "ended", "one"]) (sc := defScope s_House_finish) (by decide +kernel)) (fun _ _ _ _ _ => pg_name (i := 3) sc_House_finish.nd rfl (by first | exact Or.inl rfl | exact Or.inr rfl)) (fun _ _ _ _ _ => by exact pts_one (pt_cmpR (kin K) (pv 1) (gm m_row (hr.mono (by decide)) takes0 (pv 0) (pa_cons (pv 3) (pa_nil))) (by first | exact nomark _ | rfl))) (fun _ _ _ _ _ => by exact pv 3))
      (pss_cons (ps_for (passes_of rfl) rfl (kiL K (pv 2)) (pg_name (i := 3) sc_House_finish.nd rfl (by first | exact Or.inl rfl | exact Or.inr rfl))
        (pss_cons (ps_asg (pv 1) (pg_sub (kfld K (pv 0)) (pv 3) set_list))
      (pss_one (ps_expr (gm m_clear (hr.mono (by decide)) takes0 (pv 0) (pa_cons (pv 3) (pa_nil)))))))
      (pss_one (ps_ret (pv 2)))))), ?_⟩
    refine ⟨_, rfl, s.p, dx, fs, rfl, e, ff.no _ (by decide +kernel), _, rfl, s.p, s.h, s.t, s.hs, s.ts, n, rfl, fr, hn, ?_⟩
    refine ⟨_, rfl, rfl, _, rfl, ?_⟩
    have z : decide (nint n = V.int 0) = false := decide_eq_false fun c => by unfold nint at c; injection c with c; omega
    rw [z]
    refine iteF ?_
    refine ⟨_, rfl, s.p, dx, fs, rfl, e, ff.no _ (by decide +kernel), s.p, s.h, s.t, s.hs, s.ts, rfl, fr, fun l1 H1 hl1 k1 eL1 => ?_⟩
    refine ⟨l1, _, rfl, SqL.of eL1, fun D hD => ?_⟩
    have neD : ∀ b o, H1 b = some o → b ≠ D := fun b o eb => ne_of_none eb hD
    refine lc_it walk_rev (fun i H2 => Kp [] H1 H2 ∧ H2 D = some (.lst ((((stand s.ts).reverse.take i).filter fun k => decide (n ∈ rowW s.hs k)).map nint)))
      ⟨fun b o eb _ => (upd_ne (neD b o eb)).trans eb, upd_same⟩ (fun i H2 _ ⟨k2, _⟩ => SqL.of (k2 _ _ eL1 (by simp))) ?_ ?_
    · rintro i x H3 H2 hi ⟨k2, eD⟩ ⟨rfl, hx⟩
      rw [List.length_map] at hi hx
      obtain ⟨k, hk, rfl⟩ : ∃ k, (stand s.ts)[(stand s.ts).length - 1 - i]? = some k ∧ x = nint k := by
        rw [List.getElem?_map] at hx
        cases ek : (stand s.ts)[(stand s.ts).length - 1 - i]? with
        | none => rw [ek] at hx; cases hx
        | some k => rw [ek] at hx; exact ⟨k, rfl, (Option.some.inj hx).symm⟩
      have hr : (stand s.ts).reverse[i]? = some k := by rw [List.getElem?_reverse hi]; exact hk
      have hkt : s.ts[k]? = some none := mem_stand.mp (List.mem_of_getElem? hk)
      have hkl : k < s.hs.length := by have := (List.getElem?_eq_some_iff.mp hkt).1; omega
      have kH : Kp [] H H2 := k1.trans k2
      refine ⟨rfl, _, rfl, _, rfl, s.p, dx, fs, rfl, kH _ _ e (by simp), ff.no _ (by decide +kernel), _, rfl, s.p, s.h, s.t, s.hs, s.ts, k, rfl, fr.kp0 kH, hkl, fun l4 H4 hl4 k4 eL4 => ?_⟩
      refine ⟨l4, _, rfl, .inl (SqL.of eL4), rfl, flat_nint _, _, rfl, ?_⟩
      have eD4 : H4 D = some (.lst ((((stand s.ts).reverse.take i).filter fun k => decide (n ∈ rowW s.hs k)).map nint)) := k4 _ _ eD (by simp)
      show if inV (.int (n : Int)) ((rowW s.hs k).map nint) = true then _ else _
      rw [inV_nint]
      by_cases hc : n ∈ rowW s.hs k
      · rw [decide_eq_true hc]
        refine iteT ⟨_, rfl, _, eD4, ?_, fun b o eb hb => ?_, ?_⟩
        · rw [List.length_map]
          have := stand_len s.ts
          refine small1000 (Nat.le_trans (List.length_filter_le _ _) (Nat.le_trans (List.length_take_le _ _) ?_))
          omega
        · rw [upd_ne (neD b o eb)]; exact (k2.trans k4) b o eb hb
        · rw [upd_same, sel_yes nint (fun k => decide (n ∈ rowW s.hs k)) hr (decide_eq_true hc)]
      · rw [decide_eq_false hc]
        refine iteF ⟨k2.trans k4, ?_⟩
        rw [eD4, sel_no nint (fun k => decide (n ∈ rowW s.hs k)) hr (decide_eq_false hc)]
    · rintro H2 ⟨k2, eD⟩
      have eD' : H2 D = some (.lst ((fin s.hs s.ts n).map nint)) := by
        rw [eD, List.length_map, ← List.length_reverse, List.take_length]; rfl
      have kH : Kp [] H H2 := k1.trans k2
      have hDH : H D = none := k1.free hD
      have Dt : D ≠ s.t := (ne_of_none lt hDH).symm
      have Dh : D ≠ s.hd := (ne_of_none ho.hd hDH).symm
      have fnd := fin_nd s.hs s.ts n
      refine ⟨_, rfl, D, rfl, ⟨_, SqL.of eD'⟩, for_list (K := K) (a := D) (xs := (fin s.hs s.ts n).map nint) (fun i σ H3 => ∃ v, σ = [some (.ref s.p), some (nint n), some (.ref D), v] ∧ Kp [s.t, s.hd] H H3 ∧ H3 D = some (.lst ((fin s.hs s.ts n).map nint)) ∧
        H3 s.t = some (.lst ((taken s.ts ((fin s.hs s.ts n).take i) n).map enc)) ∧ H3 s.hd = some (.dT (hdL (s.here.filter fun r => decide (r.f ∉ (fin s.hs s.ts n).take i)))))
        ⟨none, rfl, fun b o eb _ => kH b o eb (by simp), eD', (kH _ _ lt (by simp)).trans rfl, ?_⟩ (fun i σ H3 _ ⟨_, _, _, eD3, _⟩ => SqL.of eD3) ?_ ?_⟩
      · rw [kH _ _ ho.hd (by simp)]
        congr 3
        exact (List.filter_eq_self.mpr fun r _ => by simp).symm
      · rintro i x σ H3 hx ⟨v, rfl, k3, eD3, et3, eh3⟩
        obtain ⟨k, hk, rfl⟩ : ∃ k, (fin s.hs s.ts n)[i]? = some k ∧ x = nint k := by
          rw [List.getElem?_map] at hx
          cases ek : (fin s.hs s.ts n)[i]? with
          | none => rw [ek] at hx; cases hx
          | some k => rw [ek] at hx; exact ⟨k, rfl, (Option.some.inj hx).symm⟩
        obtain ⟨hi, ei⟩ := List.getElem?_eq_some_iff.mp hk
        have hkt : s.ts[k]? = some none := fin_stand (List.mem_of_getElem? hk)
        have hkl : k < s.ts.length := (List.getElem?_eq_some_iff.mp hkt).1
        have hnot : k ∉ (fin s.hs s.ts n).take i := by
          intro z
          obtain ⟨j, hj, ej⟩ := List.mem_iff_getElem.mp z
          rw [List.getElem_take] at ej
          rw [List.length_take] at hj
          have := (List.getElem_inj fnd).mp (ej.trans ei.symm)
          omega
        have ot : ∀ {b o}, H b = some o → b ≠ s.t → b ≠ s.hd → H3 b = some o := fun eb n1 n2 => k3 _ _ eb (by simp [n1, n2])
        refine ⟨_, rfl, _, rfl, s.p, CH K, dx, fs, _, rfl, ot e pt ph, T.c_House, T.n_House_takers, ff.tt, _, rfl, _, _, _, k, rfl, rfl, et3, ?_, ?_⟩
        · unfold ixN
          rw [if_pos (by omega), if_pos (by rw [List.length_map, taken_len]; omega)]; rfl
        · have th : s.t ≠ s.hd := ne_of lt ho.hd (fun z => by cases z)
          have r4 : ∀ b o, H b = some o → b ≠ s.t → b ≠ s.hd → L2.upd H3 s.t (.lst (((taken s.ts ((fin s.hs s.ts n).take i) n).map enc).set k (nint n))) b = some o := fun b o eb n1 n2 => (upd_ne n1).trans (ot eb n1 n2)
          refine ⟨_, rfl, s.p, dx, fs, rfl, r4 _ _ e pt ph, ff.no _ (by decide +kernel), _, rfl, s, _, k, rfl, ⟨dx, fs, r4 _ _ e pt ph, hf⟩, pl, r4 _ _ ho.gd (ne_of ho.gd lt (fun z => by cases z)) (ne_of ho.gd ho.hd (fun z => by cases z)), fun y hy => ?_, fun r hr2 => ?_, (upd_ne th.symm).trans eh3, List.filter_sublist.trans (here_sub s), fun r hr2 hrf => ?_, fun H4 k4 eh4 => ⟨_, rfl, fun b o eb hb => ?_, ?_, ?_, ?_⟩⟩
          · exact r4 _ _ (ho.gl y hy) (fun z => pl.s2 (List.mem_append_left _ (List.mem_map.mpr ⟨y, hy, z⟩))) (ne_of (ho.gl y hy) ho.hd (fun z => by cases z))
          · exact r4 _ _ (ho.wl r hr2) (ne_of (ho.wl r hr2) lt (fun z => by cases z)) (ne_of (ho.wl r hr2) ho.hd (fun z => by cases z))
          · refine List.mem_filter.mpr ⟨mem_here hr2 ?_, decide_eq_true (by rw [hrf]; exact hnot)⟩
            unfold HSt.up
            rw [hrf]; exact decide_eq_true hkt
          · have hb2 : b ≠ s.t ∧ b ≠ s.hd := by simpa using hb
            exact k4 b o ((upd_ne hb2.1).trans (k3 b o eb hb)) (by simpa using hb2.2)
          · exact k4 _ _ ((upd_ne Dt).trans eD3) (by simpa using Dh)
          · rw [k4 _ _ upd_same (by simpa using th)]
            unfold taken
            rw [foldl_more _ hk, List.map_set]; rfl
          · rw [eh4, List.filter_filter]
            congr 3
            refine List.filter_congr fun r _ => ?_
            rw [List.take_succ_eq_append_getElem hi, ei]
            rw [Bool.eq_iff_iff, Bool.and_eq_true, decide_eq_true_eq, decide_eq_true_eq, decide_eq_true_eq, List.mem_append, List.mem_singleton, not_or]
            exact and_comm
      · rintro σ H3 ⟨v, rfl, k3, eD3, et3, eh3⟩
        rw [List.length_map, List.take_length] at et3 eh3
        exact ⟨_, rfl, q D H3 hDH k3 (ho.ended k3 et3 eh3) eD3⟩
end

end Lw
namespace Lw
open PySem PySem.Spec L2 FG
open PyProof.Rows hiding St
/-! ### the law's own frames, in a dict that may hold more -/
structure ModK (H : Hp) (kv : List (Key × V)) (m mh mt : Addr) (hs ts : List (Option Int)) : Prop where
  d : H m = some (.dK kv)
  lh : H mh = some (.lst (hs.map enc))
  lt : H mt = some (.lst (ts.map enc))
  ne : mh ≠ mt
  gh : valV kv (Sum.inr ("holders" : Str)) = some (.ref mh)
  gt : valV kv (Sum.inr ("takers" : Str)) = some (.ref mt)
theorem ModK.kp {S : List Addr} {H H' : Hp} {kv : List (Key × V)} {m mh mt : Addr} {hs ts : List (Option Int)} (f : ModK H kv m mh mt hs ts) (k : Kp S H H') (h1 : m ∉ S) (h2 : mh ∉ S) (h3 : mt ∉ S) : ModK H' kv m mh mt hs ts :=
  ⟨k _ _ f.d h1, k _ _ f.lh h2, k _ _ f.lt h3, f.ne, f.gh, f.gt⟩
theorem ModK.kp0 {H H' : Hp} {kv : List (Key × V)} {m mh mt : Addr} {hs ts : List (Option Int)} (f : ModK H kv m mh mt hs ts) (k : Kp [] H H') : ModK H' kv m mh mt hs ts := f.kp k (by simp) (by simp) (by simp)
theorem ModK.getH {H : Hp} {kv : List (Key × V)} {m mh mt : Addr} {hs ts : List (Option Int)} (f : ModK H kv m mh mt hs ts) : DGet H m (.str "holders") (some (.ref mh)) := by
  have z := DGet.k (k := Sum.inr ("holders" : Str)) f.d
  rw [f.gh] at z; exact z
theorem ModK.getT {H : Hp} {kv : List (Key × V)} {m mh mt : Addr} {hs ts : List (Option Int)} (f : ModK H kv m mh mt hs ts) : DGet H m (.str "takers") (some (.ref mt)) := by
  have z := DGet.k (k := Sum.inr ("takers" : Str)) f.d
  rw [f.gt] at z; exact z
def spLStanding : Sp := fun vs H Q _ => ∃ kv m mh mt hs ts, vs = [.ref m] ∧ ModK H kv m mh mt hs ts ∧ ts.length ≤ 1000 ∧ ∀ l H', H l = none → Kp [] H H' → H' l = some (.lst ((stand ts).map nint)) → Q (.ref l) H'
def spLRow : Sp := fun vs H Q _ => ∃ kv m mh mt hs ts, ∃ n : Nat, vs = [.ref m, nint n] ∧ ModK H kv m mh mt hs ts ∧ Wf hs ts ∧ n < hs.length ∧ ∀ l H', H l = none → Kp [] H H' → H' l = some (.lst ((rowW hs n).map nint)) → Q (.ref l) H'
def spLBegin : Sp := fun vs H Q _ => ∃ kv m mh mt hs ts, ∃ n : Nat, vs = [.ref m, nint n] ∧ ModK H kv m mh mt hs ts ∧ hs.length ≤ 900 ∧ ts.length ≤ 900 ∧ ∀ H', Kp [mh, mt] H H' → ModK H' kv m mh mt (hs ++ [some (n : Int)]) (ts ++ [none]) → Q (nint hs.length) H'
def spLFin : Sp := fun vs H Q _ => ∃ kv m mh mt hs ts, ∃ n : Nat, vs = [.ref m, nint n] ∧ ModK H kv m mh mt hs ts ∧ Wf hs ts ∧ ∀ l H', H l = none → Kp [mt] H H' → ModK H' kv m mh mt hs (taken ts (fin hs ts n) n) → H' l = some (.lst ((fin hs ts n).map nint)) → Q (.ref l) H'
section
variable {P : Program} {w : World} {K : PySem.W.Frag} {mg : Str → Option Value} {base : Heap}
theorem ok_lstanding (T : Tx K mg) {fd : FuncData} (F : Fun K "_law_standing" "_law_standing" s__law_standing (He.ga K "_law_standing") fd) : FnG P w K mg base 1 (He.ga K "_law_standing") fd ["_law_model"] spLStanding := by
  refine FnG.of F sc__law_standing (fun vs H Q E h => ?_) (fun cdv A outer s H vs Q E hr h => ?_)
  · obtain ⟨kv, m, mh, mt, hs, ts, rfl, _⟩ := h; rfl
  · obtain ⟨kv, m, mh, mt, hs, ts, rfl, md, hz, q⟩ := h
    refine ⟨_, pss_one (ps_ret (pe_lc (own := [("_law_k", 1)]) (g := gName 1) rfl sc__law_standing.nd (pi_range1 rfl T.z_range (pa_cons (pe_callB (klen K) (by rfl) T.z_len PySem.boot_len (pa_cons (pe_dget hr.hu (pv 0) (pe_str) (fun _ _ => rfl)) (pa_nil))) (pa_nil))) (blkOk_by (own := [("_law_k", 1)]) (N := ["_law_model", "_law_k"]) (sc := defScope s__law_standing) (by decide +kernel)) (fun _ _ _ _ _ => pg_name (i := 1) sc__law_standing.nd rfl (by first | exact Or.inl rfl | exact Or.inr rfl)) (fun _ _ _ _ _ => by exact pts_one (pt_cmpR op_isN (pe_ix (kixL K) (pe_dget hr.hu (pv 0) (pe_str) (fun _ _ => rfl)) (pv 1) (fun _ _ => rfl)) (pe_non) (by first | exact nomark _ | rfl))) (fun _ _ _ _ _ => by exact pv 1))), ?_⟩
    refine ⟨_, rfl, m, _, rfl, md.getT, mt, _, rfl, .inl (SqL.of md.lt), _, rfl, (by rw [List.length_map]; omega), (by rw [List.length_map]; omega), fun D hD => ?_⟩
    refine lc_range (lo := 0) (n := _) (fun i H' => Kp [] H H' ∧ H' D = some (.lst ((((List.range ts.length).take i).filter fun j => decide (ts[j]? = some none)).map nint)))
      ⟨fun b o eb _ => (upd_ne (ne_of_none eb hD)).trans eb, upd_same⟩ ?_ ?_
    · rintro i H' hi ⟨kp, hD'⟩
      have hi2 : i < ts.length := by simpa using hi
      have md' := md.kp0 kp
      refine ⟨rfl, _, rfl, m, _, rfl, md'.getT, _, rfl, mt, _, _, enc ts[i], rfl, rfl, SqL.of md'.lt, ?_, rfl, _, rfl, ?_⟩
      · rw [Int.zero_add]; exact get_enc (List.getElem?_eq_getElem hi2)
      · have hr2 : (List.range ts.length)[i]? = some i := by simp [hi2]
        have hx : decide (ts[i]? = some none) = decide (enc ts[i] = V.non) := by
          rw [List.getElem?_eq_getElem hi2]
          cases ts[i] <;> simp [enc]
        by_cases hc : enc ts[i] = V.non
        · rw [decide_eq_true hc] at hx ⊢
          refine iteT ⟨_, rfl, _, hD', ?_, fun b o eb hb => ?_, ?_⟩
          · rw [List.length_map]
            exact small1000 (Nat.le_trans (List.length_filter_le _ _) (by simp; omega))
          · rw [upd_ne (ne_of_none eb hD)]; exact kp b o eb hb
          · rw [upd_same, sel_yes nint (fun j => decide (ts[j]? = some none)) hr2 hx, Int.zero_add]; rfl
        · rw [decide_eq_false hc] at hx ⊢
          refine iteF ⟨kp, ?_⟩
          rw [hD', sel_no nint (fun j => decide (ts[j]? = some none)) hr2 hx]
    · rintro H' ⟨kp, hD'⟩
      refine q D H' hD kp ?_
      rw [hD']
      unfold stand
      rw [List.take_of_length_le (by simp)]
theorem ok_lbegin (T : Tx K mg) {fd : FuncData} (F : Fun K "_law_begin" "_law_begin" s__law_begin (He.ga K "_law_begin") fd) : FnG P w K mg base 1 (He.ga K "_law_begin") fd ["_law_model", "_law_frame"] spLBegin := by
  refine FnG.of F sc__law_begin (fun vs H Q E h => ?_) (fun cdv A outer s H vs Q E hr h => ?_)
  · obtain ⟨kv, m, mh, mt, hs, ts, n, rfl, _⟩ := h; rfl
  · obtain ⟨kv, m, mh, mt, hs, ts, n, rfl, md, z1, z2, q⟩ := h
    obtain ⟨d, lh, lt, ne, gh, gt⟩ := id md
    have n1 : m ≠ mh := ne_of d lh (by intro c; cases c)
    have n2 : m ≠ mt := ne_of d lt (by intro c; cases c)
    refine ⟨_, pss_cons (ps_expr (kbm K PySem.F.plainAttrs_list PySem.F.slot_list_append PySem.F.type_list_append mt_append (pe_dget hr.hu (pv 0) (pe_str) (fun _ _ => rfl)) (pa_cons (pv 1) (pa_nil))))
      (pss_cons (ps_expr (kbm K PySem.F.plainAttrs_list PySem.F.slot_list_append PySem.F.type_list_append mt_append (pe_dget hr.hu (pv 0) (pe_str) (fun _ _ => rfl)) (pa_cons (pe_non) (pa_nil))))
      (pss_one (ps_ret (pe_op op_sub (pe_callB (klen K) (by rfl) T.z_len PySem.boot_len (pa_cons (pe_dget hr.hu (pv 0) (pe_str) (fun _ _ => rfl)) (pa_nil))) (pe_int))))), ?_⟩
    refine ⟨_, rfl, m, _, rfl, md.getH, .inl ⟨rfl, _, SqL.of lh⟩, _, rfl, mh, _, _, rfl, rfl, lh, (by rw [List.length_map]; exact small1000 (by omega)), ?_⟩
    have md1 : ModK (upd H mh (.lst (hs.map enc ++ [nint n]))) kv m mh mt (hs ++ [some (n : Int)]) ts := ⟨(upd_ne n1).trans d, by rw [upd_same, List.map_append]; rfl, (upd_ne ne.symm).trans lt, ne, gh, gt⟩
    refine ⟨_, rfl, m, _, rfl, md1.getT, .inl ⟨rfl, _, SqL.of md1.lt⟩, mt, _, _, rfl, rfl, md1.lt, (by rw [List.length_map]; exact small1000 (by omega)), ?_⟩
    have md2 : ModK (upd (upd H mh (.lst (hs.map enc ++ [nint n]))) mt (.lst (ts.map enc ++ [V.non]))) kv m mh mt (hs ++ [some (n : Int)]) (ts ++ [none]) := ⟨(upd_ne n2).trans md1.d, (upd_ne ne).trans md1.lh, by rw [upd_same, List.map_append]; rfl, ne, gh, gt⟩
    refine ⟨_, rfl, m, _, rfl, md2.getH, mh, _, rfl, .inl (SqL.of md2.lh), _, _, rfl, rfl, rt_of (b := nint hs.length) (congrArg V.int (by simp)) (q _ (fun b o eb hb => ?_) md2)⟩
    simp at hb
    rw [upd_ne hb.2, upd_ne hb.1]; exact eb
end
section
variable {P : Program} {w : World} {K : PySem.W.Frag} {mg : Str → Option Value} {base : Heap}
theorem ok_lrow (T : Tx K mg) {fd : FuncData} (F : Fun K "_law_row" "_law_row" s__law_row (He.ga K "_law_row") fd) : FnG P w K mg base 1 (He.ga K "_law_row") fd ["_law_model", "_law_frame"] spLRow := by
  refine FnG.of F sc__law_row (fun vs H Q E h => ?_) (fun cdv A outer s H vs Q E hr h => ?_)
  · obtain ⟨kv, m, mh, mt, hs, ts, n, rfl, _⟩ := h; rfl
  · obtain ⟨kv, m, mh, mt, hs, ts, n, rfl, md, wf, hn, q⟩ := h
    have ws := wf.small
    refine ⟨_, pss_cons (ps_set (i := 2) sc__law_row.nd rfl (by first | exact Or.inl rfl | exact Or.inr rfl) (pe_lst (pa_cons (pv 1) (pa_nil))))
      (pss_cons (ps_while (passes_of rfl) (pt_cmpR op_notN (pe_ix (kixL K) (pe_dget hr.hu (pv 0) (pe_str) (fun _ _ => rfl)) (pe_ix (kixL K) (pv 2) (pe_int) (fun _ _ => rfl)) (fun _ _ => rfl)) (pe_non) (by first | exact nomark _ | rfl)) (pss_one (ps_set (i := 2) sc__law_row.nd rfl (by first | exact Or.inl rfl | exact Or.inr rfl) (pe_op op_cat (pe_lst (pa_cons (pe_ix (kixL K) (pe_dget hr.hu (pv 0) (pe_str) (fun _ _ => rfl)) (pe_ix (kixL K) (pv 2) (pe_int) (fun _ _ => rfl)) (fun _ _ => rfl)) (pa_nil))) (pv 2)))))
      (pss_one (ps_ret (pv 2)))), ?_⟩
    refine ⟨_, rfl, (by show 1 ≤ sizeLine; decide), fun l hl => ?_⟩
    refine ⟨fun x σ H' => ∃ l' tail, ∃ a : Nat, σ = [some (.ref m), some (nint n), some (.ref l')] ∧ Kp [] H H' ∧ H l' = none ∧ H' l' = some (.lst ((a :: tail).map nint)) ∧ a < hs.length ∧ x = a ∧ rowW hs n = rowW hs a ++ tail,
      ⟨n, l, [], n, rfl, fun b o eb _ => (upd_ne (ne_of_none eb hl)).trans eb, hl, upd_same, hn, rfl, by simp⟩, ?_⟩
    rintro a σ H' ⟨l', tail, a2, rfl, kp, hl', hL, ha, ex, er⟩
    subst ex
    have md' := md.kp0 kp
    have hlen := row_len wf (n + 1) n (by omega) hn
    have hlt : tail.length ≤ 200 := by rw [er, List.length_append] at hlen; omega
    refine ⟨_, rfl, m, _, rfl, md'.getH, _, rfl, l', _, _, nint a, rfl, rfl, SqL.of hL, atI_nat (j := 0) rfl, mh, _, _, enc hs[a], rfl, rfl, SqL.of md'.lh, get_enc (List.getElem?_eq_getElem ha), rfl, _, rfl, ?_⟩
    by_cases h0 : a = 0
    · subst h0
      have eh : hs[0] = none := by have := wf.root; rw [List.getElem?_eq_getElem wf.pos] at this; exact Option.some.inj this
      rw [eh]
      refine iteF ⟨_, rfl, q l' H' hl' kp ?_⟩
      rw [hL, er, row_root wf]; rfl
    · obtain ⟨j, ej, hj⟩ := wf.up a (by omega) ha
      have eh : hs[a] = some (j : Int) := by rw [List.getElem?_eq_getElem ha] at ej; exact Option.some.inj ej
      rw [eh]
      refine iteT ⟨fun σ' H'' => ∃ m', m' < a ∧ _, fun σ' H'' z => z, ?_⟩
      refine ⟨_, rfl, m, _, rfl, md'.getH, _, rfl, l', _, _, nint a, rfl, rfl, SqL.of hL, atI_nat (j := 0) rfl, mh, _, _, enc hs[a], rfl, rfl, SqL.of md'.lh, get_enc (List.getElem?_eq_getElem ha), (by show 1 ≤ sizeLine; decide), fun l1 h1 => ?_⟩
      have n1 : l' ≠ l1 := ne_of_none hL h1
      refine ⟨_, rfl, l1, l', _, _, rfl, rfl, upd_same, (upd_ne n1).trans hL, (by rw [List.length_map]; show 1 + (tail.length + 1) ≤ sizeLine; exact Nat.le_trans (by omega : _ ≤ 1000) (by decide)), fun l2 h2 => ?_⟩
      have n2 : l2 ≠ l1 := fun c => by rw [c, upd_same] at h2; cases h2
      have h2' : H' l2 = none := by rw [upd_ne n2] at h2; exact h2
      have kp2 : Kp [] H (upd (upd H' l1 (.lst [enc hs[a]])) l2 (.lst ([enc hs[a]] ++ ((a :: tail).map nint)))) := fun b o eb hb => by
        have z := kp b o eb hb
        rw [upd_ne (ne_of_none z h2'), upd_ne (ne_of_none z h1)]; exact z
      refine ⟨j, hj, l2, a :: tail, j, rfl, kp2, kp.free h2', ?_, by omega, rfl, ?_⟩
      · rw [upd_same, eh]; rfl
      · rw [er, row_up ej hj, List.append_assoc]; rfl
theorem ok_lfinish (T : Tx K mg) {fd : FuncData} (F : Fun K "_law_finish" "_law_finish" s__law_finish (He.ga K "_law_finish") fd) (c__law_standing : Cal P w K mg base 1 "_law_standing" spLStanding) (c__law_row : Cal P w K mg base 1 "_law_row" spLRow) :
    FnG P w K mg base 2 (He.ga K "_law_finish") fd ["_law_model", "_law_frame"] spLFin := by
  refine FnG.of F sc__law_finish (fun vs H Q E h => ?_) (fun cdv A outer s H vs Q E hr h => ?_)
  · obtain ⟨kv, m, mh, mt, hs, ts, n, rfl, _⟩ := h; rfl
  · obtain ⟨kv, m, mh, mt, hs, ts, n, rfl, md, wf, q⟩ := h
    obtain ⟨d, lh, lt, ne, gh, gt⟩ := id md
    have n2 : m ≠ mt := ne_of d lt (by intro c; cases c)
    have ws := wf.small
    have wl := wf.len
    refine ⟨_, pss_cons (ps_setLc (i := 2) (own := [("_law_k", 3)]) (g := gName 3) rfl sc__law_finish.nd rfl rfl (sw_true rfl rfl rfl (by decide +kernel)) (kiL K (krevL K (gc c__law_standing (hr.mono (by decide)) takes0 (pa_cons (pv 0) (pa_nil))))) (blkOk_by (own := [("_law_k", 3)]) (N := ["_law_model", "_law_frame", "_law_ended", "_law_k"]) (sc := defScope s__law_finish) (by decide +kernel)) (fun _ _ _ _ _ => pg_name (i := 3) sc__law_finish.nd rfl (by first | exact Or.inl rfl | exact Or.inr rfl)) (fun _ _ _ _ _ => by exact pts_one (pt_cmpR (kin K) (pv 1) (gc c__law_row (hr.mono (by decide)) takes0 (pa_cons (pv 0) (pa_cons (pv 3) (pa_nil)))) (by first | exact nomark _ | rfl))) (fun _ _ _ _ _ => by exact pv 3))
      (pss_cons (ps_for (passes_of rfl) rfl (kiL K (pv 2)) (pg_name (i := 3) sc__law_finish.nd rfl (by first | exact Or.inl rfl | exact Or.inr rfl))
        (pss_one (ps_asg (pv 1) (pg_sub (pe_dget hr.hu (pv 0) (pe_str) (fun _ _ => rfl)) (pv 3) set_list))))
      (pss_one (ps_ret (pv 2)))), ?_⟩
    refine ⟨_, rfl, kv, m, mh, mt, hs, ts, rfl, md, by omega, fun l1 H1 hl1 k1 eL1 => ?_⟩
    refine ⟨l1, _, rfl, SqL.of eL1, fun l2 hl2 => ⟨l2, rfl, ⟨_, SqL.of upd_same⟩, fun D hD => ?_⟩⟩
    have k2 : Kp [] H1 (upd H1 l2 (.lst ((stand ts).map nint).reverse)) := fun b o eb _ => (upd_ne (ne_of_none eb hl2)).trans eb
    have eL2 : upd H1 l2 (.lst ((stand ts).map nint).reverse) l2 = some (.lst ((stand ts).reverse.map nint)) := by rw [upd_same, List.map_reverse]
    generalize hH2 : upd H1 l2 (.lst ((stand ts).map nint).reverse) = H2 at *
    have kH2 : Kp [] H H2 := k1.trans k2
    have neD : ∀ b o, H2 b = some o → b ≠ D := fun b o eb => ne_of_none eb hD
    refine lc_list (K := K) (a := l2) (xs := (stand ts).reverse.map nint) (fun i H3 => Kp [] H2 H3 ∧ H3 D = some (.lst ((((stand ts).reverse.take i).filter fun k => decide (n ∈ rowW hs k)).map nint)))
      ⟨fun b o eb _ => (upd_ne (neD b o eb)).trans eb, upd_same⟩ (fun i H3 _ ⟨k3, _⟩ => SqL.of (k3 _ _ eL2 (by simp))) ?_ ?_
    · rintro i x H3 hx ⟨k3, eD⟩
      obtain ⟨k, hr, rfl⟩ : ∃ k, (stand ts).reverse[i]? = some k ∧ x = nint k := by
        rw [List.getElem?_map] at hx
        cases ek : (stand ts).reverse[i]? with
        | none => rw [ek] at hx; cases hx
        | some k => rw [ek] at hx; exact ⟨k, rfl, (Option.some.inj hx).symm⟩
      have hkt : ts[k]? = some none := mem_stand.mp (List.mem_reverse.mp (List.mem_of_getElem? hr))
      have hkl : k < hs.length := by have := (List.getElem?_eq_some_iff.mp hkt).1; omega
      have hi : i < (stand ts).reverse.length := (List.getElem?_eq_some_iff.mp hr).1
      rw [List.length_reverse] at hi
      have sl := stand_len ts
      refine ⟨rfl, _, rfl, _, rfl, _, rfl, kv, m, mh, mt, hs, ts, k, rfl, md.kp0 (kH2.trans k3), wf, hkl, fun l4 H4 hl4 k4 eL4 => ?_⟩
      refine ⟨l4, _, rfl, .inl (SqL.of eL4), rfl, flat_nint _, _, rfl, ?_⟩
      have eD4 : H4 D = some (.lst ((((stand ts).reverse.take i).filter fun k => decide (n ∈ rowW hs k)).map nint)) := k4 _ _ eD (by simp)
      show if inV (.int (n : Int)) ((rowW hs k).map nint) = true then _ else _
      rw [inV_nint]
      by_cases hc : n ∈ rowW hs k
      · rw [decide_eq_true hc]
        refine iteT ⟨_, rfl, _, eD4, ?_, fun b o eb hb => ?_, ?_⟩
        · rw [List.length_map]
          exact small1000 (Nat.le_trans (List.length_filter_le _ _) (Nat.le_trans (List.length_take_le _ _) (by omega)))
        · rw [upd_ne (neD b o eb)]; exact (k3.trans k4) b o eb hb
        · rw [upd_same, sel_yes nint (fun k => decide (n ∈ rowW hs k)) hr (decide_eq_true hc)]
      · rw [decide_eq_false hc]
        refine iteF ⟨k3.trans k4, ?_⟩
        rw [eD4, sel_no nint (fun k => decide (n ∈ rowW hs k)) hr (decide_eq_false hc)]
    · rintro H3 ⟨k3, eD⟩
      have eD' : H3 D = some (.lst ((fin hs ts n).map nint)) := by
        rw [eD, List.length_map, List.take_length]; rfl
      have kH : Kp [] H H3 := kH2.trans k3
      have hDH : H D = none := kH2.free hD
      have Dt : D ≠ mt := fun c => by rw [c, lt] at hDH; cases hDH
      refine ⟨_, rfl, D, rfl, ⟨_, SqL.of eD'⟩, for_list (K := K) (a := D) (xs := (fin hs ts n).map nint) (fun i σ H4 => ∃ v, σ = [some (.ref m), some (nint n), some (.ref D), v] ∧ Kp [mt] H H4 ∧ H4 D = some (.lst ((fin hs ts n).map nint)) ∧
        ModK H4 kv m mh mt hs (taken ts ((fin hs ts n).take i) n)) ⟨none, rfl, fun b o eb _ => kH b o eb (by simp), eD', (md.kp0 kH)⟩ (fun i σ H4 _ ⟨_, _, _, eD4, _⟩ => SqL.of eD4) ?_ ?_⟩
      · rintro i x σ H4 hx ⟨v, rfl, k4, eD4, md4⟩
        obtain ⟨k, hk, rfl⟩ : ∃ k, (fin hs ts n)[i]? = some k ∧ x = nint k := by
          rw [List.getElem?_map] at hx
          cases ek : (fin hs ts n)[i]? with
          | none => rw [ek] at hx; cases hx
          | some k => rw [ek] at hx; exact ⟨k, rfl, (Option.some.inj hx).symm⟩
        have hkt : ts[k]? = some none := fin_stand (List.mem_of_getElem? hk)
        have hkl : k < ts.length := (List.getElem?_eq_some_iff.mp hkt).1
        refine ⟨_, rfl, _, rfl, m, _, rfl, md4.getT, _, rfl, _, _, _, k, rfl, rfl, md4.lt, ?_, ?_⟩
        · unfold ixN
          rw [if_pos (by omega), if_pos (by rw [List.length_map, taken_len]; omega)]; rfl
        · refine ⟨_, rfl, fun b o eb hb => ?_, (upd_ne Dt).trans eD4, ⟨(upd_ne n2).trans md4.d, (upd_ne ne).trans md4.lh, ?_, ne, gh, gt⟩⟩
          · have hb2 : b ≠ mt := by simpa using hb
            rw [upd_ne hb2]; exact k4 b o eb hb
          · rw [upd_same]
            unfold taken
            rw [foldl_more _ hk, List.map_set]; rfl
      · rintro σ H4 ⟨v, rfl, k4, eD4, md4⟩
        rw [List.length_map, List.take_length] at md4
        exact ⟨_, rfl, q D H4 hDH k4 md4 eD4⟩
end

end Lw
namespace Lw
open PySem PySem.Spec L2 FG
open PyProof.Rows hiding St
/-! ### the law's own houses -/
structure LSt where
  (m mh mt mw mc : Addr) (hs ts : List (Option Int)) (ls : List Rm) (lim top : Nat)
def LSt.kv (x : LSt) : List (L2.Key × V) := [(.inr "holders", .ref x.mh), (.inr "takers", .ref x.mt), (.inr "limit", nint x.lim), (.inr "top", nint x.top), (.inr "ways", .ref x.mw), (.inr "cells", .ref x.mc)]
def LSt.up (x : LSt) (r : Rm) : Bool := decide (x.ts[r.f]? = some none)
def LSt.giv (x : LSt) (f : Nat) : List Rm := x.ls.filter fun r => decide (r.f = f)
def LSt.here (x : LSt) : List Rm := x.ls.filter x.up
def LSt.foot (x : LSt) : List Addr := [x.m, x.mh, x.mt, x.mw, x.mc] ++ x.ls.map (·.c)
theorem nk {a b : Str} (h : ¬ a = b) : ¬ (Sum.inr a : L2.Key) = Sum.inr b := fun z => h (by injection z)
structure LmAt (H : Hp) (x : LSt) : Prop where
  d : H x.m = some (.dK x.kv)
  lh : H x.mh = some (.lst (x.hs.map enc))
  lt : H x.mt = some (.lst (x.ts.map enc))
  lw : H x.mw = some (.lst (x.ls.map fun r => .ref r.w))
  lc : H x.mc = some (.dT (hdL x.ls))
  cl : ∀ r ∈ x.ls, H r.c = some (.lst r.cells)
  wl : ∀ r ∈ x.ls, H r.w = some (.tup [.int (r.f : Int), .int (r.o : Int)])
  n1 : x.mh ≠ x.mt
  n2 : x.mh ≠ x.mw
  n3 : x.mt ≠ x.mw
  sp : (x.ls.map (·.c)).Nodup
  s1 : x.mh ∉ x.ls.map (·.c)
  s2 : x.mt ∉ x.ls.map (·.c)
  s3 : x.mw ∉ x.ls.map (·.c)
  kn : (x.ls.map pk).Nodup
theorem LSt.vH (x : LSt) : valV x.kv (Sum.inr ("holders" : Str)) = some (.ref x.mh) := valV_pos rfl
theorem LSt.vT (x : LSt) : valV x.kv (Sum.inr ("takers" : Str)) = some (.ref x.mt) := by
  unfold LSt.kv
  rw [valV_neg (nk (by decide +kernel))]
  exact valV_pos rfl
theorem LSt.vTop (x : LSt) : valV x.kv (Sum.inr ("top" : Str)) = some (nint x.top) := by
  unfold LSt.kv
  rw [valV_neg (nk (by decide +kernel)), valV_neg (nk (by decide +kernel)), valV_neg (nk (by decide +kernel))]
  exact valV_pos rfl
theorem LSt.vW (x : LSt) : valV x.kv (Sum.inr ("ways" : Str)) = some (.ref x.mw) := by
  unfold LSt.kv
  rw [valV_neg (nk (by decide +kernel)), valV_neg (nk (by decide +kernel)), valV_neg (nk (by decide +kernel)), valV_neg (nk (by decide +kernel))]
  exact valV_pos rfl
theorem LSt.vC (x : LSt) : valV x.kv (Sum.inr ("cells" : Str)) = some (.ref x.mc) := by
  unfold LSt.kv
  rw [valV_neg (nk (by decide +kernel)), valV_neg (nk (by decide +kernel)), valV_neg (nk (by decide +kernel)), valV_neg (nk (by decide +kernel)), valV_neg (nk (by decide +kernel))]
  exact valV_pos rfl
theorem LSt.putTop (x : LSt) (n : Nat) : putK x.kv (Sum.inr ("top" : Str)) (nint n) = ({ x with top := n } : LSt).kv := by
  have a1 : ¬ (Sum.inr ("holders" : Str) : L2.Key) = Sum.inr ("top" : Str) := nk (by decide +kernel)
  have a2 : ¬ (Sum.inr ("takers" : Str) : L2.Key) = Sum.inr ("top" : Str) := nk (by decide +kernel)
  have a3 : ¬ (Sum.inr ("limit" : Str) : L2.Key) = Sum.inr ("top" : Str) := nk (by decide +kernel)
  have a4 : ¬ (Sum.inr ("ways" : Str) : L2.Key) = Sum.inr ("top" : Str) := nk (by decide +kernel)
  have a5 : ¬ (Sum.inr ("cells" : Str) : L2.Key) = Sum.inr ("top" : Str) := nk (by decide +kernel)
  unfold putK LSt.kv
  simp [a1, a2, a3, a4, a5]
theorem LmAt.md {H : Hp} {x : LSt} (y : LmAt H x) : ModK H x.kv x.m x.mh x.mt x.hs x.ts := ⟨y.d, y.lh, y.lt, y.n1, x.vH, x.vT⟩
theorem LmAt.getW {H : Hp} {x : LSt} (y : LmAt H x) : DGet H x.m (.str "ways") (some (.ref x.mw)) := by
  have z := DGet.k (k := Sum.inr ("ways" : Str)) y.d
  rw [x.vW] at z; exact z
theorem LmAt.getC {H : Hp} {x : LSt} (y : LmAt H x) : DGet H x.m (.str "cells") (some (.ref x.mc)) := by
  have z := DGet.k (k := Sum.inr ("cells" : Str)) y.d
  rw [x.vC] at z; exact z
theorem LmAt.getTop {H : Hp} {x : LSt} (y : LmAt H x) : DGet H x.m (.str "top") (some (nint x.top)) := by
  have z := DGet.k (k := Sum.inr ("top" : Str)) y.d
  rw [x.vTop] at z; exact z
theorem LmAt.kp {S : List Addr} {H H' : Hp} {x : LSt} (y : LmAt H x) (k : Kp S H H') (hF : ∀ a ∈ S, a ∉ x.foot) (hT : ∀ a ∈ S, ∀ xs, H a ≠ some (.tup xs)) : LmAt H' x := by
  have m : ∀ {a o}, H a = some o → a ∈ x.foot → H' a = some o := fun {a o} e h => k a o e fun z => hF a z h
  have f1 : ∀ a, a ∈ [x.m, x.mh, x.mt, x.mw, x.mc] → a ∈ x.foot := fun a h => List.mem_append_left _ h
  exact ⟨m y.d (f1 _ (by simp)), m y.lh (f1 _ (by simp)), m y.lt (f1 _ (by simp)), m y.lw (f1 _ (by simp)), m y.lc (f1 _ (by simp)), fun r hr => m (y.cl r hr) (List.mem_append_right _ (List.mem_map.mpr ⟨r, hr, rfl⟩)), fun r hr => k _ _ (y.wl r hr) fun z => hT _ z _ (y.wl r hr),
    y.n1, y.n2, y.n3, y.sp, y.s1, y.s2, y.s3, y.kn⟩
theorem LmAt.kp0 {H H' : Hp} {x : LSt} (y : LmAt H x) (k : Kp [] H H') : LmAt H' x := y.kp k (fun _ z => by cases z) (fun _ z => by cases z)
theorem kkn_of {l : List Rm} (h : (l.map pk).Nodup) : (l.map Rm.key).Nodup := by
  have e : l.map Rm.key = (l.map pk).map fun z => ([.inl (z.1 : Int), .inl (z.2 : Int)] : List L2.Key) := by
    rw [List.map_map]; rfl
  rw [e]
  refine nd_map (fun a b h => ?_) h
  injection h with h1 h2
  injection h1 with h1
  injection h2 with h2 _
  injection h2 with h2
  exact Prod.ext (by omega) (by omega)
theorem LmAt.getR {H : Hp} {x : LSt} (y : LmAt H x) {r : Rm} (hr : r ∈ x.ls) {q : Addr} (eq : H q = some (.tup [.int (r.f : Int), .int (r.o : Int)])) : DGet H x.mc (.ref q) (some (.ref r.c)) := by
  have z := DGet.t (k := r.key) y.lc (b := q) eq
  have e : valV (hdL x.ls) r.key = some (.ref r.c) := val_nodup (by rw [hdL_keys]; exact kkn_of y.kn) (r.key, .ref r.c) (List.mem_map.mpr ⟨r, hr, rfl⟩)
  rw [e] at z; exact z
def spLHouse : Sp := fun vs H Q _ => ∃ n : Nat, vs = [nint n] ∧ ∀ m mh mt mw mc H', (∀ b ∈ [m, mh, mt, mw, mc], H b = none) → Kp [] H H' → LmAt H' ⟨m, mh, mt, mw, mc, [none], [none], [], n, 0⟩ → Q (.ref m) H'
def spLGiven : Sp := fun vs H Q _ => ∃ (x : LSt) (f : Nat), vs = [.ref x.m, nint f] ∧ LmAt H x ∧ x.ls.length ≤ 1000000 ∧ ∀ l H', H l = none → Kp [] H H' → H' l = some (.lst ((x.giv f).map fun r => .ref r.w)) → Q (.ref l) H'
def spLHere : Sp := fun vs H Q _ => ∃ x : LSt, vs = [.ref x.m] ∧ LmAt H x ∧ x.ls.length ≤ 1000000 ∧ (∀ r ∈ x.ls, r.f < x.ts.length) ∧ ∀ l H', H l = none → Kp [] H H' → H' l = some (.lst (x.here.map fun r => .ref r.w)) → Q (.ref l) H'
def spLUsed : Sp := fun vs H Q _ => ∃ x : LSt, vs = [.ref x.m] ∧ LmAt H x ∧ x.ls.length ≤ 1000000 ∧ (∀ r ∈ x.ls, r.f < x.ts.length) ∧ ∀ H', Kp [] H H' → Q (.int (szs x.here : Int)) H'
/-- a room is made -/
def LSt.made (x : LSt) (f k t : Nat) (c w : Addr) : LSt := { x with ls := x.ls ++ [⟨f, szs (x.giv f), List.replicate k .non, c, w⟩], top := t }
def spLMake : Sp := fun vs H Q _ => ∃ (x : LSt) (f k : Nat), vs = [.ref x.m, nint f, nint k] ∧ LmAt H x ∧ x.ls.length < 1000000 ∧ (∀ r ∈ x.ls, r.f < x.ts.length) ∧ x.ts[f]? = some none ∧ k ≤ 6 ∧ (∀ r ∈ x.ls, ¬ (r.f = f ∧ r.o = szs (x.giv f))) ∧
  ∀ c w t H', H c = none → H w = none → Kp [x.m, x.mw, x.mc] H H' → LmAt H' (x.made f k t c w) → t = max x.top (szs x.here + k) → Q (.ref w) H'
theorem up_enc {ts : List (Option Int)} {i : Nat} (h : i < ts.length) : decide (enc ts[i] = V.non) = decide (ts[i]? = some none) := by
  rw [List.getElem?_eq_getElem h]
  cases ts[i] <;> simp [enc]
section
variable {P : Program} {w : World} {K : PySem.W.Frag} {mg : Str → Option Value} {base : Heap}
theorem ok_lgiven (T : Tx K mg) {fd : FuncData} (F : Fun K "_law_given" "_law_given" s__law_given (He.ga K "_law_given") fd) : FnG P w K mg base 1 (He.ga K "_law_given") fd ["_law_model", "_law_frame"] spLGiven := by
  refine FnG.of F sc__law_given (fun vs H Q E h => ?_) (fun cdv A outer s H vs Q E hr h => ?_)
  · obtain ⟨x, f, rfl, _⟩ := h; rfl
  · obtain ⟨x, f, rfl, y, hl, q⟩ := h
    refine ⟨_, pss_one (ps_ret (pe_lc (own := [("_law_way", 2)]) (g := gName 2) rfl sc__law_given.nd (kiL K (pe_dget hr.hu (pv 0) (pe_str) (fun _ _ => rfl))) (blkOk_by (own := [("_law_way", 2)]) (N := ["_law_model", "_law_frame", "_law_way"]) (sc := defScope s__law_given) (by decide +kernel)) (fun _ _ _ _ _ => pg_name (i := 2) sc__law_given.nd rfl (by first | exact Or.inl rfl | exact Or.inr rfl)) (fun _ _ _ _ _ => by exact pts_one (pt_cmpR op_eq (pe_ix (kixT K) (pv 2) (pe_int) (fun _ _ => rfl)) (pv 1) (by first | exact nomark _ | rfl))) (fun _ _ _ _ _ => by exact pv 2))), ?_⟩
    refine ⟨_, rfl, x.m, _, rfl, y.getW, x.mw, rfl, ⟨_, SqL.of y.lw⟩, fun D hD => ?_⟩
    have neD : ∀ b o, H b = some o → b ≠ D := fun b o eb => ne_of_none eb hD
    refine lc_list (K := K) (a := x.mw) (xs := x.ls.map fun r => V.ref r.w) (fun i H2 => Kp [] H H2 ∧ H2 D = some (.lst (((x.ls.take i).filter fun r => decide (r.f = f)).map fun r => V.ref r.w)))
      ⟨fun b o eb _ => (upd_ne (neD b o eb)).trans eb, upd_same⟩ (fun i H2 _ ⟨k2, _⟩ => SqL.of (k2 _ _ y.lw (by simp))) ?_ ?_
    · rintro i v H2 hx ⟨k2, eD⟩
      obtain ⟨r, hr2, rfl⟩ : ∃ r, x.ls[i]? = some r ∧ v = .ref r.w := by
        rw [List.getElem?_map] at hx
        cases ek : x.ls[i]? with
        | none => rw [ek] at hx; cases hx
        | some r => rw [ek] at hx; exact ⟨r, rfl, (Option.some.inj hx).symm⟩
      have hm := List.mem_of_getElem? hr2
      have hi := (List.getElem?_eq_some_iff.mp hr2).1
      refine ⟨rfl, _, rfl, r.w, _, _, _, rfl, rfl, SqT.of (k2 _ _ (y.wl r hm) (by simp)), atI_nat (j := 0) rfl, _, rfl, rfl, _, rfl, ?_⟩
      have e1 : decide (V.int (r.f : Int) = nint f) = decide (r.f = f) := by
        rw [decide_eq_decide]; constructor
        · intro z; unfold nint at z; injection z with z; omega
        · intro z; rw [z]; rfl
      rw [e1]
      by_cases c : r.f = f
      · rw [decide_eq_true c]
        refine iteT ⟨_, rfl, _, eD, ?_, fun b o eb _ => (upd_ne (neD b o eb)).trans (k2 b o eb (by simp)), ?_⟩
        · rw [List.length_map]
          refine Nat.lt_of_le_of_lt (Nat.le_trans (List.length_filter_le _ _) ?_) (by decide : 1000000 < sizeLine)
          rw [List.length_take]; omega
        · rw [upd_same, sel_yes (fun r => V.ref r.w) (fun r => decide (r.f = f)) hr2 (decide_eq_true c)]
      · rw [decide_eq_false c]
        refine iteF ⟨k2, ?_⟩
        rw [eD, sel_no (fun r => V.ref r.w) (fun r => decide (r.f = f)) hr2 (decide_eq_false c)]
    · rintro H2 ⟨k2, eD⟩
      refine q D H2 hD k2 ?_
      rw [eD, List.length_map, List.take_length]; rfl
end

end Lw
namespace Lw
open PySem PySem.Spec L2 FG
open PyProof.Rows hiding St
/-! ### what is refused -/
def BadN (hs : List (Option Int)) (v : V) : Prop := ∀ n : Nat, v = nint n → ¬ n < hs.length
def OutNF (K : PySem.W.Frag) (H : Hp) (v : V) (E : XK) : Prop := ∀ d H', Kp [] H H' → H' d = some (.xd [("found", v)]) → E (.ref (He.ga K "NoFrame")) (some d) H'
def OutG (K : PySem.W.Frag) (H : Hp) (v : V) (i : Int) (E : XK) : Prop := ∀ d H', Kp [] H H' → H' d = some (.xd [("by", .int i), ("found", v)]) → E (.ref (He.ga K "Gone")) (some d) H'
def OutM (K : PySem.W.Frag) (H : Hp) (n : Nat) (E : XK) : Prop := ∀ d H', Kp [] H H' → H' d = some (.xd [("many", nint n)]) → E (.ref (He.ga K "TooMany")) (some d) H'
def OutGr (K : PySem.W.Frag) (H : Hp) (E : XK) : Prop := ∀ H', Kp [] H H' → E (.ref (He.ga K "Ground")) none H'
/-- no number, or of one that has ended -/
def StdX (K : PySem.W.Frag) (H : Hp) (hs ts : List (Option Int)) (v : V) (E : XK) : Prop := (BadN hs v ∧ OutNF K H v E) ∨ ∃ (n : Nat) (i : Int), v = nint n ∧ ts[n]? = some (some i) ∧ OutG K H v i E
def spBegX (K : PySem.W.Frag) (C : Addr) : Sp := fun vs H _ E => ∃ p h t hs ts v, vs = [.ref p, v] ∧ FrAt C H p h t hs ts ∧ Sh H v ∧ BadN hs v ∧ OutNF K H v E
def spStdX (K : PySem.W.Frag) (C : Addr) : Sp := fun vs H _ E => ∃ p h t hs ts v, vs = [.ref p, v] ∧ FrAt C H p h t hs ts ∧ Sh H v ∧ StdX K H hs ts v E
def spMoreX (K : PySem.W.Frag) (C : Addr) : Sp := fun vs H _ E => ∃ p h t hs ts, vs = [.ref p] ∧ FrAt C H p h t hs ts ∧ 100 < hs.length ∧ OutM K H hs.length E
def spBeginX (K : PySem.W.Frag) (C : Addr) : Sp := fun vs H _ E => ∃ p h t hs ts v, vs = [.ref p, v] ∧ FrAt C H p h t hs ts ∧ Sh H v ∧ (StdX K H hs ts v E ∨ ∃ n : Nat, v = nint n ∧ ts[n]? = some none ∧ 100 < hs.length ∧ OutM K H hs.length E)
def spFinX (K : PySem.W.Frag) (C : Addr) : Sp := fun vs H _ E => ∃ p h t hs ts v, vs = [.ref p, v] ∧ FrAt C H p h t hs ts ∧ Sh H v ∧ (StdX K H hs ts v E ∨ (v = nint 0 ∧ ts[0]? = some none ∧ OutGr K H E))
def spStandsT (K : PySem.W.Frag) (C : Addr) : Sp := fun vs H Q _ => ∃ p h t hs ts v, vs = [.ref p, v] ∧ FrAt C H p h t hs ts ∧ Sh H v ∧ ∀ b : Bool, (b = true ↔ ∃ n : Nat, v = nint n ∧ ts[n]? = some none) → Q (.bl b) H
theorem FnG.or {P : Program} {w : World} {K : PySem.W.Frag} {mg : Str → Option Value} {base : Heap} {k : Nat} {f : Addr} {fd : FuncData} {ps : List Str} {sp sp' : Sp} (F : FnG P w K mg base k f fd ps sp) (F' : FnG P w K mg base k f fd ps sp') : FnG P w K mg base k f fd ps (fun vs H Q E => sp vs H Q E ∨ sp' vs H Q E) :=
  ⟨fun vs H Q E z => z.elim (F.nargs vs H Q E) (F'.nargs vs H Q E), fun A outer s H ar us vs Q E a b c d z => z.elim (F.goes A outer s H ar us vs Q E a b c d) (F'.goes A outer s H ar us vs Q E a b c d)⟩
def orS (a b : Sp) : Sp := fun vs H Q E => a vs H Q E ∨ b vs H Q E
theorem whole_bad {v : V} {n : Nat} (h : ∀ m : Nat, v = nint m → ¬ m < n) : wholeV v 0 ((n : Int) - 1) = false := by
  unfold wholeV
  cases v with
  | int z =>
    by_cases c : 0 ≤ z ∧ z ≤ (n : Int) - 1
    · exact absurd (show z.toNat < n by omega) (h z.toNat (by unfold nint; rw [Int.toNat_of_nonneg c.1]))
    · simpa using c
  | _ => rfl
theorem whole_good {m n : Nat} (h : m < n) : wholeV (nint m) 0 ((n : Int) - 1) = true := by
  unfold wholeV nint
  simp; omega
section
variable {P : Program} {w : World} {K : PySem.W.Frag} {mg : Str → Option Value} {base : Heap}
theorem ok_begunX (T : Tx K mg) {C : Addr} (cC : Cls K C) (nH : NoAttr K C "holders") (nT : NoAttr K C "takers") {fd : FuncData} {f : Addr} (F : Fun K "need_begun" "Frames.need_begun" s_House_need_begun f fd) (c_is_whole : Cal P w K mg base 2 "is_whole" spWholeG) (r_NoFrame : Rai P w K mg base "NoFrame" (He.ga K "NoFrame") ["found"]) : FnG P w K mg base 3 f fd ["self", "frame"] (spBegX K C) := by
  refine FnG.of F sc_House_need_begun (fun vs H Q E h => ?_) (fun cdv A outer s H vs Q E hr h => ?_)
  · obtain ⟨p, h, t, hs, ts, v, rfl, _⟩ := h; rfl
  · obtain ⟨p, h, t, hs, ts, v, rfl, ⟨⟨dx, fs, e, ff⟩, lh, lt, ne, wf⟩, sh, bad, o⟩ := h
    refine ⟨_, pss_one (ps_if (pt_not (pt_val (gc c_is_whole (hr.mono (by decide)) tkE (pa_cons (pv 1) (pa_cons (pe_int) (pa_cons (pe_op op_sub (pe_callB (klen K) (by rfl) T.z_len PySem.boot_len (pa_cons (kfld K (pv 0)) (pa_nil))) (pe_int)) (pa_nil))))))) (pss_one (ps_rais r_NoFrame (hr.mono (by decide)) tkE (pa_cons (pv 1) (pa_nil)))) (pss_nil)), ?_⟩
    refine ⟨_, rfl, _, rfl, p, C, dx, fs, _, rfl, e, cC, nH, ff.hh, h, _, rfl, .inl (SqL.of lh), _, _, rfl, rfl, v, 0, _, rfl, sh, _, rfl, ?_⟩
    have z : wholeV v 0 (((hs.map enc).length : Int) - 1) = false := by rw [List.length_map]; exact whole_bad bad
    rw [z]
    refine iteT ⟨_, rfl, rfl, (by show 1 ≤ 10; decide), fun d hd => ?_⟩
    exact o d _ ((Kp.refl (S := [])).new hd) upd_same
theorem ok_stdX (T : Tx K mg) {C : Addr} (cC : Cls K C) (nH : NoAttr K C "holders") (nT : NoAttr K C "takers") {fd : FuncData} {f : Addr} (F : Fun K "need_standing" "Frames.need_standing" s_House_need_standing f fd) (m_need_begun : Met P w K mg base 3 C "need_begun" (orS (spBeg C) (spBegX K C))) (r_Gone : Rai P w K mg base "Gone" (He.ga K "Gone") ["found", "by"]) :
    FnG P w K mg base 4 f fd ["self", "frame"] (spStdX K C) := by
  refine FnG.of F sc_House_need_standing (fun vs H Q E h => ?_) (fun cdv A outer s H vs Q E hr h => ?_)
  · obtain ⟨p, h, t, hs, ts, v, rfl, _⟩ := h; rfl
  · obtain ⟨p, h, t, hs, ts, v, rfl, fr, sh, o⟩ := h
    obtain ⟨⟨dx, fs, e, ff⟩, lh, lt, ne, wf⟩ := id fr
    refine ⟨_, pss_cons (ps_expr (gm m_need_begun (hr.mono (by decide)) tkE (pv 0) (pa_cons (pv 1) (pa_nil))))
      (pss_one (ps_if (pt_cmpR op_notN (pe_ix (kixL K) (kfld K (pv 0)) (pv 1) (fun _ _ => rfl)) (pe_non) (by first | exact nomark _ | rfl)) (pss_one (ps_rais r_Gone (hr.mono (by decide)) tkE (pa_cons (pv 1) (pa_cons (pe_ix (kixL K) (kfld K (pv 0)) (pv 1) (fun _ _ => rfl)) (pa_nil))))) (pss_nil))), ?_⟩
    rcases o with ⟨bad, o⟩ | ⟨n, i, rfl, hn, o⟩
    · exact ⟨_, rfl, p, dx, fs, rfl, e, ff.no _ (by decide +kernel), _, rfl, .inr ⟨p, h, t, hs, ts, v, rfl, fr, sh, bad, o⟩⟩
    · have hl := (List.getElem?_eq_some_iff.mp hn).1
      refine ⟨_, rfl, p, dx, fs, rfl, e, ff.no _ (by decide +kernel), _, rfl, .inl ⟨p, h, t, hs, ts, n, rfl, fr, wf.len ▸ hl, ?_⟩⟩
      refine ⟨_, rfl, p, C, dx, fs, _, rfl, e, cC, nT, ff.tt, _, rfl, t, _, _, _, rfl, rfl, SqL.of lt, get_enc hn, rfl, _, rfl, iteT ?_⟩
      refine ⟨_, rfl, _, rfl, p, C, dx, fs, _, rfl, e, cC, nT, ff.tt, _, rfl, t, _, _, _, rfl, rfl, SqL.of lt, get_enc hn, rfl, (by show 2 ≤ 10; decide), fun d hd => ?_⟩
      exact o d _ ((Kp.refl (S := [])).new hd) upd_same
theorem ok_moreX (T : Tx K mg) {C : Addr} (cC : Cls K C) (nH : NoAttr K C "holders") (nT : NoAttr K C "takers") {fd : FuncData} {f : Addr} (F : Fun K "need_more" "Frames.need_more" s_House_need_more f fd) (r_TooMany : Rai P w K mg base "TooMany" (He.ga K "TooMany") ["many"]) : FnG P w K mg base 3 f fd ["self"] (spMoreX K C) := by
  obtain ⟨tM, hg_MOST⟩ := T.i_MOST
  refine FnG.of F sc_House_need_more (fun vs H Q E h => ?_) (fun cdv A outer s H vs Q E hr h => ?_)
  · obtain ⟨p, h, t, hs, ts, rfl, _⟩ := h; rfl
  · obtain ⟨p, h, t, hs, ts, rfl, ⟨⟨dx, fs, e, ff⟩, lh, lt, ne, wf⟩, hn, o⟩ := h
    refine ⟨_, pss_one (ps_if (pt_cmpR op_gt (pe_callB (klen K) (by rfl) T.z_len PySem.boot_len (pa_cons (kfld K (pv 0)) (pa_nil))) (pe_glob (v := .int 100) rfl hg_MOST ⟨_, rfl⟩) (by first | exact nomark _ | rfl)) (pss_one (ps_rais r_TooMany (hr.mono (by decide)) tkE (pa_cons (pe_callB (klen K) (by rfl) T.z_len PySem.boot_len (pa_cons (kfld K (pv 0)) (pa_nil))) (pa_nil)))) (pss_nil)), ?_⟩
    refine ⟨_, rfl, p, C, dx, fs, _, rfl, e, cC, nH, ff.hh, h, _, rfl, .inl (SqL.of lh), _, 100, rfl, rfl, _, rfl, ?_⟩
    have z : decide ((100 : Int) < ((hs.map enc).length : Int)) = true := by
      rw [List.length_map]; exact decide_eq_true (by omega)
    show if decide ((100 : Int) < ((hs.map enc).length : Int)) = true then _ else _
    rw [z]
    refine iteT ⟨_, rfl, p, C, dx, fs, _, rfl, e, cC, nH, ff.hh, h, _, rfl, .inl (SqL.of lh), rfl, (by show 1 ≤ 10; decide), fun d hd => ?_⟩
    refine o d _ ((Kp.refl (S := [])).new hd) ?_
    rw [List.length_map]; exact upd_same
theorem ok_standsT (T : Tx K mg) {C : Addr} (cC : Cls K C) (nH : NoAttr K C "holders") (nT : NoAttr K C "takers") {fd : FuncData} {f : Addr} (F : Fun K "stands" "Frames.stands" s_House_stands f fd) (c_is_whole : Cal P w K mg base 2 "is_whole" spWholeG) : FnG P w K mg base 3 f fd ["self", "thing"] (spStandsT K C) := by
  refine FnG.of F sc_House_stands (fun vs H Q E h => ?_) (fun cdv A outer s H vs Q E hr h => ?_)
  · obtain ⟨p, h, t, hs, ts, v, rfl, _⟩ := h; rfl
  · obtain ⟨p, h, t, hs, ts, v, rfl, ⟨⟨dx, fs, e, ff⟩, lh, lt, ne, wf⟩, sh, q⟩ := h
    have wl := wf.len
    refine ⟨_, pss_one (ps_ret (pe_and (gc c_is_whole (hr.mono (by decide)) takes0 (pa_cons (pv 1) (pa_cons (pe_int) (pa_cons (pe_op op_sub (pe_callB (klen K) (by rfl) T.z_len PySem.boot_len (pa_cons (kfld K (pv 0)) (pa_nil))) (pe_int)) (pa_nil))))) (pe_one (pe_cmpR op_isN (pe_ix (kixL K) (kfld K (pv 0)) (pv 1) (fun _ _ => rfl)) (pe_non) (by first | exact nomark _ | rfl))))), ?_⟩
    refine ⟨_, rfl, _, rfl, p, C, dx, fs, _, rfl, e, cC, nH, ff.hh, h, _, rfl, .inl (SqL.of lh), _, _, rfl, rfl, v, 0, _, rfl, sh, _, rfl, ?_⟩
    rw [List.length_map]
    by_cases c : ∃ n : Nat, v = nint n ∧ n < hs.length
    · obtain ⟨n, rfl, hn⟩ := c
      rw [whole_good hn]
      have hl : n < ts.length := by omega
      refine iteT ⟨_, rfl, p, C, dx, fs, _, rfl, e, cC, nT, ff.tt, _, rfl, t, _, _, _, rfl, rfl, SqL.of lt, get_enc (List.getElem?_eq_getElem hl), rfl, q _ ?_⟩
      rw [decide_eq_true_eq]
      constructor
      · intro z
        refine ⟨n, rfl, ?_⟩
        rw [List.getElem?_eq_getElem hl]
        cases y : ts[n] with
        | none => rfl
        | some i => rw [y] at z; cases z
      · rintro ⟨m, em, hm⟩
        have : m = n := by unfold nint at em; injection em with em; omega
        rw [this, List.getElem?_eq_getElem hl] at hm
        rw [Option.some.inj hm]; rfl
    · rw [whole_bad fun m em hm => c ⟨m, em, hm⟩]
      refine iteF (q _ ⟨(fun z => by cases z), ?_⟩)
      rintro ⟨m, em, hm⟩
      exact absurd ⟨m, em, by have := (List.getElem?_eq_some_iff.mp hm).1; omega⟩ c
end

end Lw
namespace Lw
open PySem PySem.Spec L2 FG
open PyProof.Rows hiding St
/-! ### the rooms that stand, by the law -/
section
variable {P : Program} {w : World} {K : PySem.W.Frag} {mg : Str → Option Value} {base : Heap}
theorem ok_lhere (T : Tx K mg) {fd : FuncData} (F : Fun K "_law_here" "_law_here" s__law_here (He.ga K "_law_here") fd) : FnG P w K mg base 1 (He.ga K "_law_here") fd ["_law_model"] spLHere := by
  refine FnG.of F sc__law_here (fun vs H Q E h => ?_) (fun cdv A outer s H vs Q E hr h => ?_)
  · obtain ⟨x, rfl, _⟩ := h; rfl
  · obtain ⟨x, rfl, y, hl, hf, q⟩ := h
    refine ⟨_, pss_one (ps_ret (pe_lc (own := [("_law_way", 1)]) (g := gName 1) rfl sc__law_here.nd (kiL K (pe_dget hr.hu (pv 0) (pe_str) (fun _ _ => rfl))) (blkOk_by (own := [("_law_way", 1)]) (N := ["_law_model", "_law_way"]) (sc := defScope s__law_here) (by decide +kernel)) (fun _ _ _ _ _ => pg_name (i := 1) sc__law_here.nd rfl (by first | exact Or.inl rfl | exact Or.inr rfl)) (fun _ _ _ _ _ => by exact pts_one (pt_cmpR op_isN (pe_ix (kixL K) (pe_dget hr.hu (pv 0) (pe_str) (fun _ _ => rfl)) (pe_ix (kixT K) (pv 1) (pe_int) (fun _ _ => rfl)) (fun _ _ => rfl)) (pe_non) (by first | exact nomark _ | rfl))) (fun _ _ _ _ _ => by exact pv 1))), ?_⟩
    refine ⟨_, rfl, x.m, _, rfl, y.getW, x.mw, rfl, ⟨_, SqL.of y.lw⟩, fun D hD => ?_⟩
    have neD : ∀ b o, H b = some o → b ≠ D := fun b o eb => ne_of_none eb hD
    refine lc_list (K := K) (a := x.mw) (xs := x.ls.map fun r => V.ref r.w) (fun i H2 => Kp [] H H2 ∧ H2 D = some (.lst (((x.ls.take i).filter x.up).map fun r => V.ref r.w)))
      ⟨fun b o eb _ => (upd_ne (neD b o eb)).trans eb, upd_same⟩ (fun i H2 _ ⟨k2, _⟩ => SqL.of (k2 _ _ y.lw (by simp))) ?_ ?_
    · rintro i v H2 hx ⟨k2, eD⟩
      obtain ⟨r, hr2, rfl⟩ : ∃ r, x.ls[i]? = some r ∧ v = .ref r.w := by
        rw [List.getElem?_map] at hx
        cases ek : x.ls[i]? with
        | none => rw [ek] at hx; cases hx
        | some r => rw [ek] at hx; exact ⟨r, rfl, (Option.some.inj hx).symm⟩
      have hm := List.mem_of_getElem? hr2
      have hi := (List.getElem?_eq_some_iff.mp hr2).1
      have hfl := hf r hm
      have y2 := y.kp0 k2
      refine ⟨rfl, _, rfl, x.m, _, rfl, y2.md.getT, _, rfl, r.w, _, _, _, rfl, rfl, SqT.of (y2.wl r hm), atI_nat (j := 0) rfl, x.mt, _, _, _, rfl, rfl, SqL.of y2.lt, get_enc (List.getElem?_eq_getElem hfl), rfl, _, rfl, ?_⟩
      rw [up_enc hfl]
      by_cases c : x.ts[r.f]? = some none
      · have hu : x.up r = true := decide_eq_true c
        rw [decide_eq_true c]
        refine iteT ⟨_, rfl, _, eD, ?_, fun b o eb _ => (upd_ne (neD b o eb)).trans (k2 b o eb (by simp)), ?_⟩
        · rw [List.length_map]
          refine Nat.lt_of_le_of_lt (Nat.le_trans (List.length_filter_le _ _) ?_) (by decide : 1000000 < sizeLine)
          rw [List.length_take]; omega
        · rw [upd_same, sel_yes (fun r => V.ref r.w) x.up hr2 hu]
      · have hu : x.up r = false := decide_eq_false c
        rw [decide_eq_false c]
        refine iteF ⟨k2, ?_⟩
        rw [eD, sel_no (fun r => V.ref r.w) x.up hr2 hu]
    · rintro H2 ⟨k2, eD⟩
      refine q D H2 hD k2 ?_
      rw [eD, List.length_map, List.take_length]; rfl
end

end Lw
namespace Lw
open PySem PySem.Spec L2 FG
open PyProof.Rows hiding St
/-! ### small things about frames and their texts -/
/-- those that take are small -/
def TOk (ts : List (Option Int)) : Prop := ∀ i, some i ∈ ts → i.natAbs < 1000
theorem TOk.more {ts : List (Option Int)} (h : TOk ts) : TOk (ts ++ [none]) := fun i hi => by
  rcases List.mem_append.mp hi with z | z
  · exact h i z
  · simp at z
theorem TOk.taken {f : Nat} (hf : f < 1000) : ∀ (ks : List Nat) {ts : List (Option Int)}, TOk ts → TOk (taken ts ks f) := by
  intro ks
  induction ks with
  | nil => intro ts h; exact h
  | cons k ks ih =>
    intro ts h
    refine ih (ts := ts.set k (some (f : Int))) fun i hi => ?_
    rcases List.mem_or_eq_of_mem_set hi with z | z
    · exact h i z
    · cases z; omega
theorem taken_out {f : Nat} : ∀ (ks : List Nat) (ts : List (Option Int)) (i : Nat), i ∉ ks → (taken ts ks f)[i]? = ts[i]? := by
  intro ks
  induction ks with
  | nil => intro ts i _; rfl
  | cons k ks ih =>
    intro ts i h
    have h2 : ¬ i = k ∧ i ∉ ks := by simpa using h
    exact (ih _ i h2.2).trans (List.getElem?_set_ne (Ne.symm h2.1))
theorem ground_stays {hs ts : List (Option Int)} (w : Wf hs ts) (g : ts[0]? = some none) {f : Nat} (hf : 0 < f) : (taken ts (fin hs ts f) f)[0]? = some none := by
  rw [taken_out]
  · exact g
  · intro h
    unfold fin at h
    have h2 := of_decide_eq_true (List.mem_filter.mp h).2
    rw [row_root w] at h2
    simp at h2; omega
theorem and_if {c d : Bool} {X A B : Prop} (hX : (if d = true then A else B) → X) (h1 : c = true → d = true → A) (h2 : (c && d) = false → B) : if c = true then X else (if false = true then A else B) := by
  cases c with
  | false => exact iteF (iteF (h2 rfl))
  | true =>
    refine iteT (hX ?_)
    cases d with
    | false => exact iteF (h2 rfl)
    | true => exact iteT (h1 rfl rfl)
theorem or_no {c d : Bool} {X A B : Prop} (hX : (if d = true then A else B) → X) (hc : c = false) (hd : d = false) (h : B) : if c = true then (if true = true then A else B) else X := by
  subst hc hd
  exact iteF (hX (iteF h))
def pnint (n : Nat) : PyData := .int (n : Int)
theorem shw_nints {K : PySem.W.Frag} {l : Addr} {xs : List Nat} {H : Hp} (e : H l = some (.lst (xs.map nint))) (hx : ∀ x ∈ xs, x < 10000) (hl : xs.length ≤ 10000) : Shw K H (.ref l) (.list (xs.map pnint)) := by
  refine shw_at (.lst (SqL.of e) (dp_nint K H xs)) ?_ ?_ ?_
  · simp only [okD]
    refine okDs_of fun d hd => ?_
    obtain ⟨x, h, rfl⟩ := List.mem_map.mp hd
    have := hx x h
    have e1 : (10 : Nat) ^ 38 = 100000000000000000000000000000000000000 := by decide
    simp only [pnint, okD, decide_eq_true_eq, e1]; omega
  · simp only [PyData.bulk]
    rw [bulk_flat fun d hd => by obtain ⟨x, _, rfl⟩ := List.mem_map.mp hd; simp only [pnint, PyData.bulk], List.length_map]; omega
  · simp only [PyData.depth]
    rw [depth_flat fun d hd => by obtain ⟨x, _, rfl⟩ := List.mem_map.mp hd; simp only [pnint, PyData.depth]]; omega
theorem stand_lt {ts : List (Option Int)} {x : Nat} (h : x ∈ stand ts) : x < ts.length := (List.getElem?_eq_some_iff.mp (mem_stand.mp h)).1
theorem fin_lt {hs ts : List (Option Int)} {f x : Nat} (h : x ∈ fin hs ts f) : x < ts.length := (List.getElem?_eq_some_iff.mp (fin_stand h)).1

end Lw
namespace Lw
open PySem PySem.Spec L2 FG
open PyProof.Rows hiding St
/-! ### the law's own houses: used, house, make -/
theorem szs_sum (l : List Rm) : (l.map fun r => (r.cells.length : Int)).sum = (szs l : Int) := by
  unfold szs
  induction l with
  | nil => rfl
  | cons r l ih => simp only [List.map_cons, List.sum_cons, ih]; omega
theorem ne_ob {H : Hp} {a b : Addr} {o o' : HO} (h1 : H a = some o) (h2 : H b = some o') (n : o ≠ o') : a ≠ b := fun e => by rw [e, h2] at h1; exact n (Option.some.inj h1).symm
theorem LmAt.put {H H' : Hp} {x : LSt} {f k : Nat} {c w : Addr} (y : LmAt H x) (kp : Kp [x.mw, x.mc] H H') (hc : H c = none) (ew : H' x.mw = some (.lst ((x.ls.map fun r => V.ref r.w) ++ [.ref w]))) (em : H' x.mc = some (.dT (hdL (x.ls ++ [⟨f, szs (x.giv f), List.replicate k .non, c, w⟩]))))
    (ec : H' c = some (.lst (List.replicate k .non))) (et : H' w = some (.tup [.int (f : Int), .int (szs (x.giv f) : Int)])) (fr : ∀ r ∈ x.ls, ¬ (r.f = f ∧ r.o = szs (x.giv f))) : LmAt H' (x.made f k x.top c w) := by
  have g : ∀ {a o}, H a = some o → (∀ xs, o ≠ .lst xs ∨ a ≠ x.mw) → (∀ xs, o ≠ .dT xs) → H' a = some o := fun {a o} e h1 h2 => kp a o e fun z => by
    simp only [List.mem_cons, List.not_mem_nil, or_false] at z
    rcases z with z | z
    · rcases h1 _ with q | q
      · rw [z, y.lw] at e; exact q (Option.some.inj e).symm
      · exact q z
    · rw [z, y.lc] at e; exact h2 _ (Option.some.inj e).symm
  refine ⟨g y.d (fun _ => .inl fun z => by cases z) (fun _ z => by cases z), g y.lh (fun _ => .inr y.n2) (fun _ z => by cases z), g y.lt (fun _ => .inr y.n3) (fun _ z => by cases z), ?_, em, fun r hr => ?_, fun r hr => ?_, y.n1, y.n2, y.n3, ?_, ?_, ?_, ?_, ?_⟩
  · show H' x.mw = some (HO.lst ((x.ls ++ [(⟨f, szs (x.giv f), List.replicate k .non, c, w⟩ : Rm)]).map _)); rw [ew, List.map_append]; rfl
  · rcases List.mem_append.mp hr with z | z
    · exact g (y.cl r z) (fun _ => .inr fun e => y.s3 (List.mem_map.mpr ⟨r, z, e⟩)) (fun _ z => by cases z)
    · rw [List.mem_singleton] at z; subst z; exact ec
  · rcases List.mem_append.mp hr with z | z
    · exact g (y.wl r z) (fun _ => .inl fun z => by cases z) (fun _ z => by cases z)
    · rw [List.mem_singleton] at z; subst z; exact et
  · show ((x.ls ++ [(⟨f, szs (x.giv f), List.replicate k .non, c, w⟩ : Rm)]).map fun r : Rm => r.c).Nodup
    rw [List.map_append]
    refine List.nodup_append.mpr ⟨y.sp, by simp, fun a ha b hb e => ?_⟩
    obtain ⟨r, hr, rfl⟩ := List.mem_map.mp ha
    have hb2 : b = c := by simpa using hb
    have := y.cl r hr
    rw [e, hb2, hc] at this; cases this
  · show x.mh ∉ (x.ls ++ [(⟨f, szs (x.giv f), List.replicate k .non, c, w⟩ : Rm)]).map fun r : Rm => r.c
    rw [List.map_append, List.mem_append, not_or]
    refine ⟨y.s1, fun z => ?_⟩
    have z2 : x.mh = c := by simpa using z
    have := y.lh; rw [z2, hc] at this; cases this
  · show x.mt ∉ (x.ls ++ [(⟨f, szs (x.giv f), List.replicate k .non, c, w⟩ : Rm)]).map fun r : Rm => r.c
    rw [List.map_append, List.mem_append, not_or]
    refine ⟨y.s2, fun z => ?_⟩
    have z2 : x.mt = c := by simpa using z
    have := y.lt; rw [z2, hc] at this; cases this
  · show x.mw ∉ (x.ls ++ [(⟨f, szs (x.giv f), List.replicate k .non, c, w⟩ : Rm)]).map fun r : Rm => r.c
    rw [List.map_append, List.mem_append, not_or]
    refine ⟨y.s3, fun z => ?_⟩
    have z2 : x.mw = c := by simpa using z
    have := y.lw; rw [z2, hc] at this; cases this
  · show ((x.ls ++ [(⟨f, szs (x.giv f), List.replicate k .non, c, w⟩ : Rm)]).map pk).Nodup
    rw [List.map_append]
    refine List.nodup_append.mpr ⟨y.kn, by simp, fun a ha b hb e => ?_⟩
    obtain ⟨r, hr, rfl⟩ := List.mem_map.mp ha
    have hb2 : b = (f, szs (x.giv f)) := by simpa [pk] using hb
    rw [hb2] at e
    exact fr r hr ⟨congrArg Prod.fst e, congrArg Prod.snd e⟩
theorem LmAt.top {H H' : Hp} {x : LSt} {n : Nat} (y : LmAt H x) (kp : Kp [x.m] H H') (e : H' x.m = some (.dK (putK x.kv (Sum.inr ("top" : Str)) (nint n)))) : LmAt H' { x with top := n } := by
  have g : ∀ {a o}, H a = some o → (∀ xs, o ≠ .dK xs) → H' a = some o := fun {a o} e h => kp a o e fun z => by
    rw [List.mem_singleton] at z; rw [z, y.d] at e; exact h _ (Option.some.inj e).symm
  exact ⟨by rw [e, x.putTop], g y.lh (fun _ z => by cases z), g y.lt (fun _ z => by cases z), g y.lw (fun _ z => by cases z), g y.lc (fun _ z => by cases z), fun r hr => g (y.cl r hr) (fun _ z => by cases z), fun r hr => g (y.wl r hr) (fun _ z => by cases z),
    y.n1, y.n2, y.n3, y.sp, y.s1, y.s2, y.s3, y.kn⟩
theorem hd_put {l : List Rm} {f o : Nat} {c w : Addr} {k : Nat} (h : ∀ r ∈ l, ¬ (r.f = f ∧ r.o = o)) : putK (hdL l) [.inl (f : Int), .inl (o : Int)] (.ref c) = hdL (l ++ [⟨f, o, List.replicate k .non, c, w⟩]) := by
  rw [putK_new]
  · unfold hdL; rw [List.map_append]; rfl
  · refine valV_no fun z => ?_
    rw [hdL_keys, List.mem_map] at z
    obtain ⟨r, hr, e⟩ := z
    refine h r hr ?_
    unfold Rm.key at e
    injection e with e1 e2
    injection e1 with e1
    injection e2 with e2 _
    injection e2 with e2
    omega
theorem lmade_here {x : LSt} {f k t : Nat} {c w : Addr} (h : x.ts[f]? = some none) : szs (x.made f k t c w).here = szs x.here + k := by
  have e : (x.made f k t c w).here = x.here ++ [⟨f, szs (x.giv f), List.replicate k .non, c, w⟩] := by
    unfold LSt.here LSt.made
    rw [List.filter_append]
    congr 1
    show List.filter (fun r : Rm => decide (x.ts[r.f]? = some none)) [(⟨f, szs (x.giv f), List.replicate k .non, c, w⟩ : Rm)] = _
    simp [h]
  rw [e, szs_app]
  simp [szs]
section
variable {P : Program} {w : World} {K : PySem.W.Frag} {mg : Str → Option Value} {base : Heap}
theorem ok_lused (T : Tx K mg) {fd : FuncData} (F : Fun K "_law_used" "_law_used" s__law_used (He.ga K "_law_used") fd) : FnG P w K mg base 1 (He.ga K "_law_used") fd ["_law_model"] spLUsed := by
  refine FnG.of F sc__law_used (fun vs H Q E h => ?_) (fun cdv A outer s H vs Q E hr h => ?_)
  · obtain ⟨x, rfl, _⟩ := h; rfl
  · obtain ⟨x, rfl, y, hl, hf, q⟩ := h
    refine ⟨_, pss_one (ps_ret (pe_callB (ksum K) (by rfl) T.z_sum (by decide +kernel) (pa_cons (pe_lc (own := [("_law_way", 1)]) (g := gName 1) rfl sc__law_used.nd (kiL K (pe_dget hr.hu (pv 0) (pe_str) (fun _ _ => rfl))) (blkOk_by (own := [("_law_way", 1)]) (N := ["_law_model", "_law_way"]) (sc := defScope s__law_used) (by decide +kernel)) (fun _ _ _ _ _ => pg_name (i := 1) sc__law_used.nd rfl (by first | exact Or.inl rfl | exact Or.inr rfl)) (fun _ _ _ _ _ => by exact pts_one (pt_cmpR op_isN (pe_ix (kixL K) (pe_dget hr.hu (pv 0) (pe_str) (fun _ _ => rfl)) (pe_ix (kixT K) (pv 1) (pe_int) (fun _ _ => rfl)) (fun _ _ => rfl)) (pe_non) (by first | exact nomark _ | rfl))) (fun _ _ _ _ _ => by exact pe_callB (klen K) (by rfl) T.z_len PySem.boot_len (pa_cons (pe_dget hr.hu (pe_dget hr.hu (pv 0) (pe_str) (fun _ _ => rfl)) (pv 1) (fun _ _ => rfl)) (pa_nil)))) (pa_nil)))), ?_⟩
    refine ⟨_, rfl, x.m, _, rfl, y.getW, x.mw, rfl, ⟨_, SqL.of y.lw⟩, fun D hD => ?_⟩
    have neD : ∀ b o, H b = some o → b ≠ D := fun b o eb => ne_of_none eb hD
    refine lc_list (K := K) (a := x.mw) (xs := x.ls.map fun r => V.ref r.w) (fun i H2 => Kp [] H H2 ∧ H2 D = some (.lst (((x.ls.take i).filter x.up).map fun r => V.int (r.cells.length : Int))))
      ⟨fun b o eb _ => (upd_ne (neD b o eb)).trans eb, upd_same⟩ (fun i H2 _ ⟨k2, _⟩ => SqL.of (k2 _ _ y.lw (by simp))) ?_ ?_
    · rintro i v H2 hx ⟨k2, eD⟩
      obtain ⟨r, hr2, rfl⟩ : ∃ r, x.ls[i]? = some r ∧ v = .ref r.w := by
        rw [List.getElem?_map] at hx
        cases ek : x.ls[i]? with
        | none => rw [ek] at hx; cases hx
        | some r => rw [ek] at hx; exact ⟨r, rfl, (Option.some.inj hx).symm⟩
      have hm := List.mem_of_getElem? hr2
      have hi := (List.getElem?_eq_some_iff.mp hr2).1
      have hfl := hf r hm
      have y2 := y.kp0 k2
      refine ⟨rfl, _, rfl, x.m, _, rfl, y2.md.getT, _, rfl, r.w, _, _, _, rfl, rfl, SqT.of (y2.wl r hm), atI_nat (j := 0) rfl, x.mt, _, _, _, rfl, rfl, SqL.of y2.lt, get_enc (List.getElem?_eq_getElem hfl), rfl, _, rfl, ?_⟩
      rw [up_enc hfl]
      by_cases c : x.ts[r.f]? = some none
      · have hu : x.up r = true := decide_eq_true c
        rw [decide_eq_true c]
        refine iteT ⟨_, rfl, x.m, _, rfl, y2.getC, _, rfl, x.mc, _, rfl, y2.getR hm (y2.wl r hm), r.c, _, rfl, .inl (SqL.of (y2.cl r hm)), _, eD, ?_, fun b o eb _ => (upd_ne (neD b o eb)).trans (k2 b o eb (by simp)), ?_⟩
        · rw [List.length_map]
          refine Nat.lt_of_le_of_lt (Nat.le_trans (List.length_filter_le _ _) ?_) (by decide : 1000000 < sizeLine)
          rw [List.length_take]; omega
        · rw [upd_same, sel_yes (fun r => V.int (r.cells.length : Int)) x.up hr2 hu]
      · have hu : x.up r = false := decide_eq_false c
        rw [decide_eq_false c]
        refine iteF ⟨k2, ?_⟩
        rw [eD, sel_no (fun r => V.int (r.cells.length : Int)) x.up hr2 hu]
    · rintro H2 ⟨k2, eD⟩
      rw [List.length_map, List.take_length] at eD
      refine ⟨D, x.here.map fun r => (r.cells.length : Int), rfl, SqL.of (eD.trans (by rw [List.map_map]; rfl)), ?_⟩
      rw [szs_sum]
      exact q H2 k2
theorem ok_lhouse (T : Tx K mg) {fd : FuncData} (F : Fun K "_law_house" "_law_house" s__law_house (He.ga K "_law_house") fd) : FnG P w K mg base 1 (He.ga K "_law_house") fd ["_law_limit"] spLHouse := by
  refine FnG.of F sc__law_house (fun vs H Q E h => ?_) (fun cdv A outer s H vs Q E hr h => ?_)
  · obtain ⟨n, rfl, _⟩ := h; rfl
  · obtain ⟨n, rfl, q⟩ := h
    refine ⟨_, pss_one (ps_ret (pe_disp (pps_cons (pe_str) (pe_lst (pa_cons (pe_non) (pa_nil))) (pps_cons (pe_str) (pe_lst (pa_cons (pe_non) (pa_nil))) (pps_cons (pe_str) (pv 0) (pps_cons (pe_str) (pe_int) (pps_cons (pe_str) (pe_lst (pa_nil)) (pps_cons (pe_str) (pe_dnewT) (pps_nil))))))) (by rfl) (by rfl) (fun z => by cases z) (by decide))), ?_⟩
    refine fun m hm => ⟨by decide, fun mh hmh => ⟨by decide, fun mt hmt => ⟨_, rfl, by decide, fun mw hmw => fun mc hmc => ?_⟩⟩⟩
    have e0 : upd H m (.dK []) m = some (.dK []) := upd_same
    have k0 := (Kp.refl (S := []) (H := H)).new (o := .dK []) hm
    generalize upd H m (.dK []) = H0 at *
    have e1 : upd H0 mh (.lst [V.non]) mh = some (.lst ([(none : Option Int)].map enc)) := upd_same
    have k1 := (Kp.refl (S := []) (H := H0)).new (o := .lst [V.non]) hmh
    generalize upd H0 mh (.lst [V.non]) = H1 at *
    have e2 : upd H1 mt (.lst [V.non]) mt = some (.lst ([(none : Option Int)].map enc)) := upd_same
    have k2 := (Kp.refl (S := []) (H := H1)).new (o := .lst [V.non]) hmt
    generalize upd H1 mt (.lst [V.non]) = H2 at *
    have e3 : upd H2 mw (.lst []) mw = some (.lst []) := upd_same
    have k3 := (Kp.refl (S := []) (H := H2)).new (o := .lst []) hmw
    generalize upd H2 mw (.lst []) = H3 at *
    have e4 : upd H3 mc (.dT []) mc = some (.dT []) := upd_same
    have k4 := (Kp.refl (S := []) (H := H3)).new (o := .dT []) hmc
    generalize upd H3 mc (.dT []) = H4 at *
    have K04 := ((k1.trans k2).trans k3).trans k4
    have K14 := (k2.trans k3).trans k4
    have K24 := k3.trans k4
    have f0 := K04 _ _ e0 (by simp)
    have f1 := K14 _ _ e1 (by simp)
    have f2 := K24 _ _ e2 (by simp)
    have f3 := k4 _ _ e3 (by simp)
    have n1 : mh ≠ mt := ne_of_none e1 hmt
    have n2 : mh ≠ mw := ne_of_none (k2 _ _ e1 (by simp)) hmw
    have n3 : mt ≠ mw := ne_of_none e2 hmw
    refine ⟨f0, [(.inr "holders", .ref mh), (.inr "takers", .ref mt), (.inr "limit", nint n), (.inr "top", .int 0), (.inr "ways", .ref mw), (.inr "cells", .ref mc)], rfl, (by show 6 ≤ 15; decide), ?_⟩
    have eK : ∀ a b c d e f : V, mergeK ([] : List (L2.Key × V)) [(.inr "holders", a), (.inr "takers", b), (.inr "limit", c), (.inr "top", d), (.inr "ways", e), (.inr "cells", f)] = [(.inr "holders", a), (.inr "takers", b), (.inr "limit", c), (.inr "top", d), (.inr "ways", e), (.inr "cells", f)] := by
      have a1 : ¬ ((("holders" : Str)) = "takers") := by decide +kernel
      have a2 : ¬ ((("holders" : Str)) = "limit") := by decide +kernel
      have a3 : ¬ ((("holders" : Str)) = "top") := by decide +kernel
      have a4 : ¬ ((("holders" : Str)) = "ways") := by decide +kernel
      have a5 : ¬ ((("holders" : Str)) = "cells") := by decide +kernel
      have b2 : ¬ ((("takers" : Str)) = "limit") := by decide +kernel
      have b3 : ¬ ((("takers" : Str)) = "top") := by decide +kernel
      have b4 : ¬ ((("takers" : Str)) = "ways") := by decide +kernel
      have b5 : ¬ ((("takers" : Str)) = "cells") := by decide +kernel
      have c3 : ¬ ((("limit" : Str)) = "top") := by decide +kernel
      have c4 : ¬ ((("limit" : Str)) = "ways") := by decide +kernel
      have c5 : ¬ ((("limit" : Str)) = "cells") := by decide +kernel
      have d4 : ¬ ((("top" : Str)) = "ways") := by decide +kernel
      have d5 : ¬ ((("top" : Str)) = "cells") := by decide +kernel
      have g5 : ¬ ((("ways" : Str)) = "cells") := by decide +kernel
      intro a b c d e f
      simp [mergeK, putK, a1, a2, a3, a4, a5, b2, b3, b4, b5, c3, c4, c5, d4, d5, g5]
    rw [eK]
    have fr1 : H mh = none := k0.free hmh
    have fr2 : H mt = none := (k0.trans k1).free hmt
    have fr3 : H mw = none := ((k0.trans k1).trans k2).free hmw
    have fr4 : H mc = none := (((k0.trans k1).trans k2).trans k3).free hmc
    have kk : Kp [] H H4 := k0.trans K04
    refine q m mh mt mw mc _ (fun b hb => ?_) (fun b o eb _ => (upd_ne (ne_of_none eb hm)).trans (kk b o eb (by simp))) ?_
    · simp only [List.mem_cons, List.not_mem_nil, or_false] at hb
      rcases hb with rfl | rfl | rfl | rfl | rfl <;> assumption
    · have nm : ∀ {a o}, H4 a = some o → (∀ xs, o ≠ .dK xs) → a ≠ m := fun {a o} e h z => by rw [z, f0] at e; exact h _ (Option.some.inj e).symm
      exact ⟨upd_same, (upd_ne (nm f1 fun _ z => by cases z)).trans f1, (upd_ne (nm f2 fun _ z => by cases z)).trans f2, (upd_ne (nm f3 fun _ z => by cases z)).trans f3, (upd_ne (nm e4 fun _ z => by cases z)).trans e4,
        (fun r hr => by cases hr), (fun r hr => by cases hr), n1, n2, n3, List.nodup_nil, (fun z => by cases z), (fun z => by cases z), (fun z => by cases z), List.nodup_nil⟩
theorem ok_lmake (T : Tx K mg) {fd : FuncData} (F : Fun K "_law_make" "_law_make" s__law_make (He.ga K "_law_make") fd) (c__law_given : Cal P w K mg base 1 "_law_given" spLGiven) (c__law_used : Cal P w K mg base 1 "_law_used" spLUsed) : FnG P w K mg base 2 (He.ga K "_law_make") fd ["_law_model", "_law_frame", "_law_size"] spLMake := by
  refine FnG.of F sc__law_make (fun vs H Q E h => ?_) (fun cdv A outer s H vs Q E hr h => ?_)
  · obtain ⟨x, f, k, rfl, _⟩ := h; rfl
  · obtain ⟨x, f, k, rfl, y, hl, hf, hup, k6, fr, q⟩ := h
    refine ⟨_, pss_cons (ps_set (i := 3) sc__law_make.nd rfl (by first | exact Or.inl rfl | exact Or.inr rfl) (pe_tup (pa_cons (pv 1) (pa_cons (pe_callB (ksum K) (by rfl) T.z_sum (by decide +kernel) (pa_cons (pe_lc (own := [("_law_other", 4)]) (g := gName 4) (tt := tYes) rfl sc__law_make.nd (kiL K (gc c__law_given (hr.mono (by decide)) takes0 (pa_cons (pv 0) (pa_cons (pv 1) (pa_nil))))) (blkOk_by (own := [("_law_other", 4)]) (N := ["_law_model", "_law_frame", "_law_size", "_law_way", "_law_other"]) (sc := defScope s__law_make) (by decide +kernel)) (fun _ _ _ _ _ => pg_name (i := 4) sc__law_make.nd rfl (by first | exact Or.inl rfl | exact Or.inr rfl)) (fun _ _ _ _ _ => by exact pts_nil) (fun _ _ _ _ _ => by exact pe_callB (klen K) (by rfl) T.z_len PySem.boot_len (pa_cons (pe_dget hr.hu (pe_dget hr.hu (pv 0) (pe_str) (fun _ _ => rfl)) (pv 4) (fun _ _ => rfl)) (pa_nil)))) (pa_nil))) (pa_nil)))))
      (pss_cons (ps_expr (kbm K PySem.F.plainAttrs_list PySem.F.slot_list_append PySem.F.type_list_append mt_append (pe_dget hr.hu (pv 0) (pe_str) (fun _ _ => rfl)) (pa_cons (pv 3) (pa_nil))))
      (pss_cons (ps_dput hr.hu (pe_dget hr.hu (pv 0) (pe_str) (fun _ _ => rfl)) (pv 3) (pe_op op_rep (pe_lst (pa_cons (pe_non) (pa_nil))) (pv 2)) rfl)
      (pss_cons (ps_dput hr.hu (pv 0) (pe_str) (pe_callB (call_max2 rfl) (by rfl) T.z_max (by decide +kernel) (pa_cons (pe_dget hr.hu (pv 0) (pe_str) (fun _ _ => rfl)) (pa_cons (gc c__law_used (hr.mono (by decide)) takes0 (pa_cons (pv 0) (pa_nil))) (pa_nil)))) rfl)
      (pss_one (ps_ret (pv 3)))))), ?_⟩
    refine ⟨_, rfl, _, rfl, _, rfl, x, f, rfl, y, by omega, fun g H1 hg k1 eg => ?_⟩
    refine ⟨g, rfl, ⟨_, SqL.of eg⟩, fun D hD => ?_⟩
    have y1 := y.kp0 k1
    have neD : ∀ b o, H1 b = some o → b ≠ D := fun b o eb => ne_of_none eb hD
    refine lc_list (K := K) (a := g) (xs := (x.giv f).map fun r => V.ref r.w) (fun i H2 => Kp [] H1 H2 ∧ H2 D = some (.lst (((x.giv f).take i).map fun r => V.int (r.cells.length : Int))))
      ⟨fun b o eb _ => (upd_ne (neD b o eb)).trans eb, upd_same⟩ (fun i H2 _ ⟨k2, _⟩ => SqL.of (k2 _ _ eg (by simp))) ?_ ?_
    · rintro i v H2 hx ⟨k2, eD⟩
      obtain ⟨r, hr2, rfl⟩ : ∃ r, (x.giv f)[i]? = some r ∧ v = .ref r.w := by
        rw [List.getElem?_map] at hx
        cases ek : (x.giv f)[i]? with
        | none => rw [ek] at hx; cases hx
        | some r => rw [ek] at hx; exact ⟨r, rfl, (Option.some.inj hx).symm⟩
      have hm : r ∈ x.ls := (List.mem_filter.mp (List.mem_of_getElem? hr2)).1
      obtain ⟨hi, hri⟩ := List.getElem?_eq_some_iff.mp hr2
      have y2 := y1.kp0 k2
      refine ⟨rfl, _, rfl, x.m, _, rfl, y2.getC, _, rfl, x.mc, _, rfl, y2.getR hm (y2.wl r hm), r.c, _, rfl, .inl (SqL.of (y2.cl r hm)), _, eD, ?_, fun b o eb _ => (upd_ne (neD b o eb)).trans (k2 b o eb (by simp)), ?_⟩
      · rw [List.length_map, List.length_take]
        have : (x.giv f).length ≤ x.ls.length := List.length_filter_le _ _
        exact Nat.lt_of_le_of_lt (m := 1000000) (by omega) (by decide)
      · rw [upd_same, List.take_succ_eq_append_getElem hi, List.map_append, hri]; rfl
    · rintro H2 ⟨k2, eD⟩
      rw [List.length_map, List.take_length] at eD
      refine ⟨D, (x.giv f).map fun r => (r.cells.length : Int), rfl, SqL.of (eD.trans (by rw [List.map_map]; rfl)), ?_⟩
      rw [szs_sum]
      refine ⟨(by show 2 ≤ sizeLine; decide), fun wy hwy => ?_⟩
      have K2 := k1.trans k2
      have y2 := y1.kp0 k2
      have k3 := (Kp.refl (S := []) (H := H2)).new (o := .tup [nint f, .int (szs (x.giv f) : Int)]) hwy
      have ew3 : upd H2 wy (.tup [nint f, .int (szs (x.giv f) : Int)]) wy = some (.tup [.int (f : Int), .int (szs (x.giv f) : Int)]) := upd_same
      have hwH : H wy = none := K2.free hwy
      generalize upd H2 wy (.tup [nint f, .int (szs (x.giv f) : Int)]) = H3 at *
      have y3 := y2.kp0 k3
      have nwm : wy ≠ x.mw := (ne_of_none y2.lw hwy).symm
      have nwc : wy ≠ x.mc := (ne_of_none y2.lc hwy).symm
      have nwmm : wy ≠ x.m := (ne_of_none y2.d hwy).symm
      -- ways.append
      refine ⟨_, rfl, x.m, _, rfl, y3.getW, .inl ⟨rfl, _, SqL.of y3.lw⟩, _, rfl, x.mw, _, _, rfl, rfl, y3.lw, (by rw [List.length_map]; exact Nat.lt_of_lt_of_le hl (by decide)), ?_⟩
      have nmw : x.m ≠ x.mw := ne_ob y3.d y3.lw (fun z => by cases z)
      have ncw : x.mc ≠ x.mw := ne_ob y3.lc y3.lw (fun z => by cases z)
      have nmc : x.m ≠ x.mc := ne_ob y3.d y3.lc (fun z => by cases z)
      have e4 : upd H3 x.mw (.lst ((x.ls.map fun r => V.ref r.w) ++ [.ref wy])) x.mw = some (.lst ((x.ls.map fun r => V.ref r.w) ++ [.ref wy])) := upd_same
      have r4 : ∀ b, b ≠ x.mw → upd H3 x.mw (.lst ((x.ls.map fun r => V.ref r.w) ++ [.ref wy])) b = H3 b := fun b hb => upd_ne hb
      generalize upd H3 x.mw (.lst ((x.ls.map fun r => V.ref r.w) ++ [.ref wy])) = H4 at *
      -- cells[way] = [None] * size
      refine ⟨(by show 1 ≤ sizeLine; decide), fun l2 hl2 => ⟨_, rfl, l2, (k : Int), [.non], rfl, rfl, upd_same, by omega, by omega, (by rw [Int.toNat_natCast]; exact Nat.le_trans (by show 1 * k ≤ 6; omega) (by decide : 6 ≤ sizeLine)), fun c hc => ?_⟩⟩
      rw [Int.toNat_natCast, rep_flat]
      have k5 := ((Kp.refl (S := []) (H := H4)).new (o := .lst [.non]) hl2).new (o := .lst (List.replicate k .non)) hc
      have hc4 : H4 c = none := ((Kp.refl (S := []) (H := H4)).new (o := .lst [.non]) hl2).free hc
      have ec5 : upd (upd H4 l2 (.lst [.non])) c (.lst (List.replicate k .non)) c = some (.lst (List.replicate k .non)) := upd_same
      generalize upd (upd H4 l2 (.lst [.non])) c (.lst (List.replicate k .non)) = H5 at *
      have r5 : ∀ b o, b ≠ x.mw → H3 b = some o → H5 b = some o := fun b o hb e => k5 b o ((r4 b hb).trans e) (by simp)
      have ew5 : H5 x.mw = _ := k5 _ _ e4 (by simp)
      have hcw : c ≠ x.mw := fun z => by rw [z, e4] at hc4; cases hc4
      have hc3 : H3 c = none := by rw [← r4 c hcw]; exact hc4
      have hcH : H c = none := (K2.trans k3).free hc3
      refine ⟨_, rfl, x.m, _, rfl, ?_, _, rfl, x.mc, _, rfl, DPut.t (k := [.inl (f : Int), .inl (szs (x.giv f) : Int)]) (r5 _ _ ncw y3.lc) (r5 _ _ nwm ew3) (by unfold hdL; rw [List.length_map]; exact Nat.lt_of_lt_of_le hl (by decide)), ?_⟩
      · have z := DGet.k (k := Sum.inr ("cells" : Str)) (r5 _ _ nmw y3.d)
        rw [x.vC] at z; exact z
      have e6 : upd H5 x.mc (.dT (putK (hdL x.ls) [.inl (f : Int), .inl (szs (x.giv f) : Int)] (.ref c))) x.mc = some (.dT (hdL (x.ls ++ [⟨f, szs (x.giv f), List.replicate k .non, c, wy⟩]))) := by rw [upd_same, hd_put fr]
      have r6 : ∀ b, b ≠ x.mc → upd H5 x.mc (.dT (putK (hdL x.ls) [.inl (f : Int), .inl (szs (x.giv f) : Int)] (.ref c))) b = H5 b := fun b hb => upd_ne hb
      generalize upd H5 x.mc (.dT (putK (hdL x.ls) [.inl (f : Int), .inl (szs (x.giv f) : Int)] (.ref c))) = H6 at *
      have ncc : c ≠ x.mc := fun z => by rw [z, y3.lc] at hc3; cases hc3
      have kp6 : Kp [x.mw, x.mc] H3 H6 := fun b o e hb => by
        simp only [List.mem_cons, List.not_mem_nil, or_false, not_or] at hb
        rw [r6 b hb.2]; exact r5 b o hb.1 e
      have y6 : LmAt H6 (x.made f k x.top c wy) := y3.put kp6 hc3 ((r6 _ ncw.symm).trans ew5) e6 ((r6 _ ncc).trans ec5) (kp6 _ _ ew3 (by simp [nwm, nwc])) fr
      have hl6 : (x.made f k x.top c wy).ls.length ≤ 1000000 := by show (x.ls ++ [_]).length ≤ _; rw [List.length_append]; simp; omega
      have hf6 : ∀ r ∈ (x.made f k x.top c wy).ls, r.f < x.ts.length := fun r hr2 => by
        rcases List.mem_append.mp hr2 with z | z
        · exact hf r z
        · rw [List.mem_singleton] at z; subst z; exact (List.getElem?_eq_some_iff.mp hup).1
      refine ⟨_, rfl, x.m, _, rfl, y6.getTop, _, rfl, x.made f k x.top c wy, rfl, y6, hl6, hf6, fun H7 k7 => ⟨_, _, rfl, ?_⟩⟩
      obtain ⟨t, et, ht⟩ : ∃ t : Nat, (if (szs (x.made f k x.top c wy).here : Int) > (x.top : Int) then (szs (x.made f k x.top c wy).here : Int) else (x.top : Int)) = (t : Int) ∧ t = max x.top (szs x.here + k) := by
        rw [lmade_here hup]
        split
        · exact ⟨_, rfl, by omega⟩
        · exact ⟨_, rfl, by omega⟩
      have et2 : (if (szs (x.made f k x.top c wy).here : Int) > ((x.made f k x.top c wy).top : Int) then (szs (x.made f k x.top c wy).here : Int) else ((x.made f k x.top c wy).top : Int)) = (t : Int) := et
      rw [et2]
      have y7 := y6.kp0 k7
      refine ⟨_, rfl, x.m, _, rfl, DPut.k (k := Sum.inr ("top" : Str)) y7.d (by show 6 < sizeLine; decide), ?_⟩
      have y8 := y7.top (n := t) (fun b o e hb => (upd_ne (by simpa using hb)).trans e) upd_same
      refine ⟨_, rfl, q c wy t _ hcH hwH (fun b o e hb => ?_) y8 ht⟩
      simp only [List.mem_cons, List.not_mem_nil, or_false, not_or] at hb
      refine (upd_ne hb.1).trans (k7 b o (kp6 b o ((K2.trans k3) b o e (by simp)) ?_) (by simp))
      simp [hb.2.1, hb.2.2]
end

end Lw
namespace Lw
open PySem PySem.Spec L2 FG
open PyProof.Rows hiding St
/-! ### the house and the law's house tell the same rooms -/
def rho (r : Rm) : Nat × Nat × List V := (r.f, r.o, r.cells)
theorem rho_filter {l m : List Rm} (e : l.map rho = m.map rho) (q : Nat × Nat × List V → Bool) : (l.filter fun r => q (rho r)).map rho = (m.filter fun r => q (rho r)).map rho := by
  have z : ∀ l : List Rm, (l.filter fun r => q (rho r)).map rho = (l.map rho).filter q := fun l => by rw [List.filter_map]; rfl
  rw [z, z, e]
theorem rho_szs {l m : List Rm} (e : l.map rho = m.map rho) : szs l = szs m := by
  have z : ∀ l : List Rm, szs l = ((l.map rho).map fun t => t.2.2.length).sum := fun l => by unfold szs; rw [List.map_map]; rfl
  rw [z, z, e]
theorem rho_mem {l m : List Rm} (e : l.map rho = m.map rho) {r : Rm} (h : r ∈ l) : ∃ q ∈ m, q.f = r.f ∧ q.o = r.o ∧ q.cells = r.cells := by
  have z : rho r ∈ m.map rho := e ▸ List.mem_map.mpr ⟨r, h, rfl⟩
  obtain ⟨q, hq, eq⟩ := List.mem_map.mp z
  exact ⟨q, hq, congrArg Prod.fst eq, congrArg (fun t => t.2.1) eq, congrArg (fun t => t.2.2) eq⟩
theorem rho_pk {l m : List Rm} (e : l.map rho = m.map rho) : l.map pk = m.map pk := by
  have z : ∀ l : List Rm, l.map pk = (l.map rho).map fun t => (t.1, t.2.1) := fun l => by rw [List.map_map]; rfl
  rw [z, z, e]
theorem rho_len {l m : List Rm} (e : l.map rho = m.map rho) : l.length = m.length := by simpa using congrArg List.length e
/-- what the law's cells hold -/
def ValM (ls : List Rm) (v : V) : Prop := v = .non ∨ (∃ z : Int, v = .int z ∧ z.natAbs < 10 ^ 37) ∨ ∃ r ∈ ls, v = .ref r.w
structure HM (K : PySem.W.Frag) (H : Hp) (s : HSt) (x : LSt) : Prop where
  ho : HoAt (CH K) H s
  lm : LmAt H x
  eh : x.hs = s.hs
  et : x.ts = s.ts
  er : x.ls.map rho = s.rs.map rho
  gr : s.ts[0]? = some none
  tk : TOk s.ts
  vm : ∀ r ∈ x.ls, ∀ v ∈ r.cells, ValM x.ls v
  lim : x.lim = s.most
  tp : x.top = s.top
  dj : ∀ a ∈ s.foot, a ∉ x.foot
theorem HM.kp {K : PySem.W.Frag} {S : List Addr} {H H' : Hp} {s : HSt} {x : LSt} (y : HM K H s x) (k : Kp S H H') (h1 : ∀ a ∈ S, a ∉ s.foot) (h2 : ∀ a ∈ S, a ∉ x.foot) (hT : ∀ a ∈ S, ∀ xs, H a ≠ some (.tup xs)) : HM K H' s x :=
  ⟨y.ho.kp k h1 hT, y.lm.kp k h2 hT, y.eh, y.et, y.er, y.gr, y.tk, y.vm, y.lim, y.tp, y.dj⟩
theorem HM.kp0 {K : PySem.W.Frag} {H H' : Hp} {s : HSt} {x : LSt} (y : HM K H s x) (k : Kp [] H H') : HM K H' s x := y.kp k (fun _ z => by cases z) (fun _ z => by cases z) (fun _ z => by cases z)
theorem BoxAt.nt {H : Hp} {b : Addr} {n : Int} (x : BoxAt H b n) : ∀ c ∈ [b], ∀ xs, H c ≠ some (.tup xs) := by
  obtain ⟨_, _, _, e, _⟩ := x
  intro c hc xs h; rw [List.mem_singleton] at hc; subst hc; rw [e] at h; cases h
theorem HM.kpb {K : PySem.W.Frag} {H H' : Hp} {s : HSt} {x : LSt} {b : Addr} {n : Int} (y : HM K H s x) (k : Kp [b] H H') (bx : BoxAt H b n) (h1 : b ∉ s.foot) (h2 : b ∉ x.foot) : HM K H' s x :=
  y.kp k (fun a ha => by rw [List.mem_singleton] at ha; rw [ha]; exact h1) (fun a ha => by rw [List.mem_singleton] at ha; rw [ha]; exact h2) bx.nt
theorem HM.sup {K : PySem.W.Frag} {H : Hp} {s : HSt} {x : LSt} (y : HM K H s x) (r : Rm) : x.up r = s.up r := by unfold LSt.up HSt.up; rw [y.et]
theorem HM.eHere {K : PySem.W.Frag} {H : Hp} {s : HSt} {x : LSt} (y : HM K H s x) : x.here.map rho = s.here.map rho := by
  have e : x.up = s.up := funext y.sup
  unfold LSt.here HSt.here
  rw [e]
  exact rho_filter y.er fun t => decide (s.ts[t.1]? = some none)
theorem HM.eGiv {K : PySem.W.Frag} {H : Hp} {s : HSt} {x : LSt} (y : HM K H s x) (f : Nat) : (x.giv f).map rho = (s.giv f).map rho := rho_filter y.er fun t => decide (t.1 = f)
theorem HM.eUsed {K : PySem.W.Frag} {H : Hp} {s : HSt} {x : LSt} (y : HM K H s x) : szs x.here = s.used := rho_szs y.eHere
theorem HM.eFill {K : PySem.W.Frag} {H : Hp} {s : HSt} {x : LSt} (y : HM K H s x) (f : Nat) : szs (x.giv f) = s.fill f := rho_szs (y.eGiv f)
theorem HM.vok {K : PySem.W.Frag} {H : Hp} {s : HSt} {x : LSt} (y : HM K H s x) {v : V} (h : ValM x.ls v) : VOk H s.rs v := by
  rcases h with e | ⟨z, e, _⟩ | ⟨r, hr, e⟩
  · exact .inl e
  · exact .inr (.inl ⟨z, e⟩)
  · obtain ⟨q, hq, e1, e2, _⟩ := rho_mem y.er hr
    exact .inr (.inr ⟨q, hq, r.w, e, by rw [e1, e2]; exact y.lm.wl r hr⟩)
theorem HM.lt {K : PySem.W.Frag} {H : Hp} {s : HSt} {x : LSt} (y : HM K H s x) : ∀ r ∈ x.ls, r.f < x.ts.length := fun r hr => by
  obtain ⟨q, hq, e1, _⟩ := rho_mem y.er hr
  have h1 := y.ho.pl.fl q hq
  have h2 := y.ho.wf.len
  rw [y.et, ← e1]; omega
theorem HM.len {K : PySem.W.Frag} {H : Hp} {s : HSt} {x : LSt} (y : HM K H s x) : x.ls.length = s.rs.length := rho_len y.er
theorem HM.sz {K : PySem.W.Frag} {H : Hp} {s : HSt} {x : LSt} (y : HM K H s x) {r : Rm} (hr : r ∈ x.ls) : 1 ≤ r.cells.length ∧ r.cells.length ≤ 6 := by
  obtain ⟨q, hq, _, _, e3⟩ := rho_mem y.er hr
  have := y.ho.pl.sz q hq
  rw [e3] at this; exact this
/-- the room of the house that a room of the law's stands for -/
theorem HM.room {K : PySem.W.Frag} {H H1 : Hp} {s : HSt} {x : LSt} {r : Rm} {Y : Rm → Hp → Prop} {E : XK} (y : HM K H s x) (hr : r ∈ x.ls) (hu : x.up r = true) (h : ∀ q ∈ s.here, q.f = r.f → q.o = r.o → q.cells = r.cells → ∀ H', Kp [] H1 H' → Y q H') : RoomOut K H1 s r.w r.f r.o Y E := by
  obtain ⟨q, hq, e1, e2, e3⟩ := rho_mem y.er hr
  have hq2 : s.up q = true := by
    have := y.sup r
    rw [hu] at this
    unfold HSt.up at this ⊢
    rw [e1]; exact this.symm
  refine ⟨fun p hp f1 f2 _ H' k => ?_, fun p hp f1 f2 fu => ?_, fun no => absurd ⟨e1, e2⟩ (no q hq)⟩
  · have := same_room y.ho.pl hp hq (f1.trans e1.symm) (f2.trans e2.symm)
    subst this
    exact h p (mem_here hp hq2) e1 e2 e3 H' k
  · have := same_room y.ho.pl hp hq (f1.trans e1.symm) (f2.trans e2.symm)
    subst this
    rw [fu] at hq2; cases hq2
def spOneV : Sp := fun vs H Q _ => ∃ (b l : Addr) (n : Int) (xs : List V), vs = [.ref b, .ref l] ∧ BoxAt H b n ∧ n < 100000000 ∧ H l = some (.lst xs) ∧ b ≠ l ∧ xs ≠ [] ∧ xs.length ≤ 1000000 ∧
  ∀ H' v, v ∈ xs → Kp [b] H H' → BoxAt H' b (n + 2) → Q v H'
def spLValue : Sp := fun vs H Q _ => ∃ (x : LSt) (b : Addr) (n : Int), vs = [.ref b, .ref x.m] ∧ BoxAt H b n ∧ n < 10000000 ∧ LmAt H x ∧ b ∉ x.foot ∧ x.ls.length ≤ 1000000 ∧ ∀ H' v, ValM x.ls v → Kp [b] H H' → BoxAt H' b (n + 3) → Q v H'
theorem pickV {xs : List V} {z : Int} (h0 : 0 ≤ z) (h1 : z < xs.length) : ∃ v ∈ xs, atI xs z = some v := by
  obtain ⟨j, rfl⟩ : ∃ j : Nat, z = j := ⟨z.toNat, by omega⟩
  have hj : j < xs.length := by omega
  exact ⟨xs[j], List.getElem_mem hj, atI_nat (List.getElem?_eq_getElem hj)⟩
section
variable {P : Program} {w : World} {K : PySem.W.Frag} {mg : Str → Option Value} {base : Heap}
theorem ok_one (T : Tx K mg) {fd : FuncData} (F : Fun K "_law_one" "_law_one" s__law_one (He.ga K "_law_one") fd) (c__law_take : Cal P w K mg base 1 "_law_take" spTake) : FnG P w K mg base 2 (He.ga K "_law_one") fd ["_law_box_here", "_law_some"] spOneV := by
  refine FnG.of F sc__law_one (fun vs H Q E h => ?_) (fun cdv A outer s H vs Q E hr h => ?_)
  · obtain ⟨b, l, n, xs, rfl, _⟩ := h; rfl
  · obtain ⟨b, l, n, xs, rfl, hb, hn, hl, nbl, hx, hlen, q⟩ := h
    have pos : 0 < xs.length := List.length_pos_iff.mpr hx
    refine ⟨_, pss_cons (ps_set (i := 2) sc__law_one.nd rfl (by first | exact Or.inl rfl | exact Or.inr rfl) (gc c__law_take (hr.mono (by decide)) takes0 (pa_cons (pv 0) (pa_cons (pe_int) (pa_nil)))))
      (pss_cons (ps_set (i := 3) sc__law_one.nd rfl (by first | exact Or.inl rfl | exact Or.inr rfl) (gc c__law_take (hr.mono (by decide)) takes0 (pa_cons (pv 0) (pa_cons (pe_callB (klen K) (by rfl) T.z_len PySem.boot_len (pa_cons (pv 1) (pa_nil))) (pa_nil)))))
      (pss_one (ps_ret (pe_ix (kixL K) (pv 1) (pe_ix (kixL K) (pe_lst (pa_cons (pv 3) (pa_cons (pe_op op_sub (pe_callB (klen K) (by rfl) T.z_len PySem.boot_len (pa_cons (pv 1) (pa_nil))) (pe_int)) (pa_cons (pv 3) (pa_nil))))) (pv 2) (fun _ _ => rfl)) (fun _ _ => rfl))))), ?_⟩
    refine ⟨_, rfl, b, n, 3, rfl, hb, by omega, by decide, by decide, fun H1 way k1 hb1 w0 w1 => ?_⟩
    have hl1 : H1 l = some (.lst xs) := (k1 l nbl.symm).trans hl
    refine ⟨_, rfl, _, rfl, l, _, rfl, .inl (SqL.of hl1), b, n + 1, _, rfl, hb1, by omega, (by omega), (Int.lt_of_le_of_lt (by omega : (xs.length : Int) ≤ 1000000) (by decide)), fun H2 d k2 hb2 d0 d1 => ?_⟩
    have hl2 : H2 l = some (.lst xs) := (k2 l nbl.symm).trans hl1
    obtain ⟨z, hz, z0, z1⟩ : ∃ z : Int, atI [V.int d, V.int ((xs.length : Nat) - 1), V.int d] way = some (.int z) ∧ 0 ≤ z ∧ z < xs.length := by
      have hw : way = 0 ∨ way = 1 ∨ way = 2 := by omega
      rcases hw with rfl | rfl | rfl
      · exact ⟨d, rfl, d0, d1⟩
      · exact ⟨_, rfl, by omega, by omega⟩
      · exact ⟨d, rfl, d0, d1⟩
    obtain ⟨x, hxm, ex⟩ := pickV z0 z1
    refine ⟨_, rfl, _, rfl, _, rfl, l, _, rfl, .inl (SqL.of hl2), _, _, rfl, rfl, _, rfl, (by show 3 ≤ sizeLine; decide), fun r hr2 => ?_⟩
    have nlr : l ≠ r := ne_of_none hl2 hr2
    refine ⟨_, rfl, r, _, _, _, rfl, rfl, SqL.of upd_same, hz, l, _, _, _, rfl, rfl, SqL.of ((upd_ne nlr).trans hl2), ex, ?_⟩
    obtain ⟨x', y', c', eb, _⟩ := id hb2
    refine q _ x hxm (fun a o ea ha => ?_) ((hb2.more (by omega)).kp (S := []) (fun a o ea _ => (upd_ne (ne_of_none ea hr2)).trans ea) (by simp))
    have := (k1.kp.trans k2.kp) a o ea ha
    exact (upd_ne (ne_of_none this hr2)).trans this
end

end Lw
namespace Lw
open PySem PySem.Spec L2 FG
open PyProof.Rows hiding St
/-! ### a value of the law's -/
section
variable {P : Program} {w : World} {K : PySem.W.Frag} {mg : Str → Option Value} {base : Heap}
theorem ok_lvalue (T : Tx K mg) {fd : FuncData} (F : Fun K "_law_value" "_law_value" s__law_value (He.ga K "_law_value") fd) (c__law_take : Cal P w K mg base 1 "_law_take" spTake) (c__law_one : Cal P w K mg base 2 "_law_one" spOneV) : FnG P w K mg base 3 (He.ga K "_law_value") fd ["_law_box_here", "_law_model"] spLValue := by
  refine FnG.of F sc__law_value (fun vs H Q E h => ?_) (fun cdv A outer s H vs Q E hr h => ?_)
  · obtain ⟨x, b, n, rfl, _⟩ := h; rfl
  · obtain ⟨x, b, n, rfl, hb, hn, y, nb, hl, q⟩ := h
    have nbS : ∀ a ∈ [b], a ∉ x.foot := fun a ha => by rw [List.mem_singleton] at ha; rw [ha]; exact nb
    refine ⟨_, pss_cons (ps_set (i := 2) sc__law_value.nd rfl (by first | exact Or.inl rfl | exact Or.inr rfl) (gc c__law_take (hr.mono (by decide)) takes0 (pa_cons (pv 0) (pa_cons (pe_int) (pa_nil)))))
      (pss_cons (ps_if (PW.pt (pw_and (pt_cmpR op_lt (pv 2) (pe_int) (by first | exact nomark _ | rfl)) (pw_and1 (pt_cmpR (kneE K hr.r.units) (pe_dget hr.hu (pv 1) (pe_str) (fun _ _ => rfl)) (pe_lst (pa_nil)) (by first | exact nomark _ | rfl))))) (pss_one (ps_ret (gc c__law_one (hr.mono (by decide)) takes0 (pa_cons (pv 0) (pa_cons (pe_dget hr.hu (pv 1) (pe_str) (fun _ _ => rfl)) (pa_nil)))))) (pss_nil))
      (pss_cons (ps_set (i := 3) sc__law_value.nd rfl (by first | exact Or.inl rfl | exact Or.inr rfl) (pe_op op_sub (gc c__law_take (hr.mono (by decide)) takes0 (pa_cons (pv 0) (pa_cons (pe_int) (pa_nil)))) (pe_int)))
      (pss_one (ps_ret (pe_ix (kixL K) (pe_lst (pa_cons (pe_non) (pa_cons (pv 3) (pa_cons (pv 3) (pa_cons (pe_non) (pa_cons (pe_op op_add (pe_op op_mul (pe_op op_sub (pe_op op_pow (pe_int) (pe_int)) (pe_int)) (pe_ix (kixL K) (pe_lst (pa_cons (pe_int) (pa_cons (pe_un un_neg (pe_int)) (pa_nil)))) (pe_op op_mod (pv 3) (pe_int)) (fun _ _ => rfl))) (pv 3)) (pa_nil))))))) (pv 2) (fun _ _ => rfl)))))), ?_⟩
    refine ⟨_, rfl, b, n, 5, rfl, hb, by omega, by decide, by decide, fun H1 way k1 hb1 w0 w1 => ?_⟩
    have y1 := y.kp k1.kp nbS hb.nt
    have nbw : b ≠ x.mw := fun e => nb (by rw [e]; simp [LSt.foot])
    refine ⟨_, rfl, _, _, rfl, rfl, _, rfl, ?_⟩
    have way3 : way = 0 ∨ way = 1 ∨ way = 2 ∨ way = 3 ∨ way = 4 := by omega
    by_cases c3 : way < 3
    rotate_left
    rw [decide_eq_false c3]
    refine iteF (iteF ?_)
    have K2 := k1.kp
    have b2 := hb1
    obtain ⟨H2, eH2⟩ : ∃ H2, H2 = H1 := ⟨_, rfl⟩
    rw [← eH2] at K2 b2 ⊢
    rotate_left
    rw [decide_eq_true c3]
    refine iteT ⟨_, rfl, x.m, _, rfl, y1.getW, (by show 0 ≤ sizeLine; decide), fun l0 hl0 => ⟨x.mw, l0, _, rfl, rfl, SqL.of ((upd_ne (ne_of_none y1.lw hl0)).trans y1.lw), SqL.of upd_same, _, rfl, ?_⟩⟩
    have K2 := k1.kp.new (o := .lst []) hl0
    have b2 := hb1.new (o := .lst []) hl0
    have y2 := y1.kp0 ((Kp.refl (S := [])).new (o := .lst []) hl0)
    generalize upd H1 l0 (.lst []) = H2 at *
    cases cw : x.ls
    rotate_left
    rename_i r0 t0
    rw [← cw]
    have ne : (!(x.ls.map fun r => V.ref r.w).isEmpty) = true := by rw [cw]; rfl
    rw [ne]
    refine iteT ⟨_, rfl, _, rfl, x.m, _, rfl, y2.getW, b, x.mw, n + 1, _, rfl, b2, by omega, y2.lw, nbw, (by rw [cw]; intro z; cases z), (by rw [List.length_map]; omega), fun H3 v hv k3 b3 => ?_⟩
    obtain ⟨r, hr2, rfl⟩ := List.mem_map.mp hv
    exact q H3 _ (.inr (.inr ⟨r, hr2, rfl⟩)) (K2.trans k3) (b3.more (by omega))
    rotate_left
    rw [List.map_nil]
    refine iteF ?_
    all_goals
      refine ⟨_, rfl, b, n + 1, 12, rfl, b2, by omega, by decide, by decide, fun H3 d k3 b3 d0 d1 => ⟨_, _, rfl, rfl, _, rfl, _, rfl, _, _, rfl, rfl, ⟨by decide, by decide, by decide⟩, _, _, rfl, rfl, _, rfl, (by show 2 ≤ sizeLine; decide), fun r1 hr1 => ⟨_, rfl, _, _, rfl, rfl, (by decide : (0 : Int) < 2), ?_⟩⟩⟩
      have e30 : (10 : Int) ^ Int.toNat 30 = 1000000000000000000000000000000 := by decide
      have e37 : (10 : Nat) ^ 37 = 10000000000000000000000000000000000000 := by decide
      obtain ⟨e, ee, he⟩ : ∃ e : Int, atI [V.int 1, V.int (-1)] ((d - 4) % 2) = some (.int e) ∧ (e = 1 ∨ e = -1) := by
        have : (d - 4) % 2 = 0 ∨ (d - 4) % 2 = 1 := by omega
        rcases this with z | z <;> rw [z]
        · exact ⟨1, rfl, .inl rfl⟩
        · exact ⟨-1, rfl, .inr rfl⟩
      refine ⟨r1, _, _, _, rfl, rfl, SqL.of upd_same, ee, _, _, rfl, rfl, .inr ⟨by omega, by omega⟩, _, rfl, _, _, rfl, rfl, (by show 5 ≤ sizeLine; decide), fun r2 hr2 => ?_⟩
      rw [e30]
      obtain ⟨z, ez, hz⟩ : ∃ z : Int, z = (1000000000000000000000000000000 - 20) * e + (d - 4) ∧ z.natAbs < 10 ^ 37 := by
        refine ⟨_, rfl, ?_⟩
        rw [e37]
        rcases he with rfl | rfl <;> omega
      obtain ⟨v, ev, hv⟩ : ∃ v, atI [V.non, .int (d - 4), .int (d - 4), .non, .int ((1000000000000000000000000000000 - 20) * e + (d - 4))] way = some v ∧ ValM x.ls v := by
        rw [← ez]
        have hd : (d - 4).natAbs < 10 ^ 37 := by rw [e37]; omega
        rcases way3 with rfl | rfl | rfl | rfl | rfl
        · exact ⟨_, rfl, .inl rfl⟩
        · exact ⟨_, rfl, .inr (.inl ⟨_, rfl, hd⟩)⟩
        · exact ⟨_, rfl, .inr (.inl ⟨_, rfl, hd⟩)⟩
        · exact ⟨_, rfl, .inl rfl⟩
        · exact ⟨_, rfl, .inr (.inl ⟨_, rfl, hz⟩)⟩
      refine ⟨_, rfl, r2, _, _, _, rfl, rfl, SqL.of upd_same, ev, q _ _ hv (((K2.trans k3.kp).new hr1).new hr2) (((b3.more (by omega)).new hr1).new hr2)⟩
end

end Lw
namespace Lw
open PySem PySem.Spec L2 FG
open PyProof.Rows hiding St
/-! ### a deed: what is where behind it -/
theorem HoAt.std {C : Addr} {H : Hp} {s : HSt} (x : HoAt C H s) : ∀ a ∈ s.foot, ∃ o, H a = some o ∧ (∀ xs, o ≠ .tup xs) ∧ (∀ b u, o ≠ .frz b u) := by
  obtain ⟨dx, fs, e, _⟩ := x.ob
  intro a ha
  unfold HSt.foot at ha
  rcases List.mem_append.mp ha with h | h
  · rcases List.mem_append.mp h with h | h
    · simp only [List.mem_cons, List.not_mem_nil, or_false] at h
      rcases h with rfl | rfl | rfl | rfl | rfl | rfl | rfl
      · exact ⟨_, e, (fun _ c => by cases c), (fun _ _ c => by cases c)⟩
      · exact ⟨_, x.lh, (fun _ c => by cases c), (fun _ _ c => by cases c)⟩
      · exact ⟨_, x.lt, (fun _ c => by cases c), (fun _ _ c => by cases c)⟩
      · exact ⟨_, x.gd, (fun _ c => by cases c), (fun _ _ c => by cases c)⟩
      · exact ⟨_, x.fd, (fun _ c => by cases c), (fun _ _ c => by cases c)⟩
      · exact ⟨_, x.sd, (fun _ c => by cases c), (fun _ _ c => by cases c)⟩
      · exact ⟨_, x.hd, (fun _ c => by cases c), (fun _ _ c => by cases c)⟩
    · obtain ⟨y, hy, rfl⟩ := List.mem_map.mp h
      exact ⟨_, x.gl y hy, (fun _ c => by cases c), (fun _ _ c => by cases c)⟩
  · obtain ⟨r, hr, rfl⟩ := List.mem_map.mp h
    exact ⟨_, x.cl r hr, (fun _ c => by cases c), (fun _ _ c => by cases c)⟩
theorem LmAt.std {H : Hp} {x : LSt} (y : LmAt H x) : ∀ a ∈ x.foot, ∃ o, H a = some o ∧ (∀ xs, o ≠ .tup xs) ∧ (∀ b u, o ≠ .frz b u) := by
  intro a ha
  unfold LSt.foot at ha
  rcases List.mem_append.mp ha with h | h
  · simp only [List.mem_cons, List.not_mem_nil, or_false] at h
    rcases h with rfl | rfl | rfl | rfl | rfl
    · exact ⟨_, y.d, (fun _ c => by cases c), (fun _ _ c => by cases c)⟩
    · exact ⟨_, y.lh, (fun _ c => by cases c), (fun _ _ c => by cases c)⟩
    · exact ⟨_, y.lt, (fun _ c => by cases c), (fun _ _ c => by cases c)⟩
    · exact ⟨_, y.lw, (fun _ c => by cases c), (fun _ _ c => by cases c)⟩
    · exact ⟨_, y.lc, (fun _ c => by cases c), (fun _ _ c => by cases c)⟩
  · obtain ⟨r, hr, rfl⟩ := List.mem_map.mp h
    exact ⟨_, y.cl r hr, (fun _ c => by cases c), (fun _ _ c => by cases c)⟩
theorem not_tup {H : Hp} {F : List Addr} (h : ∀ a ∈ F, ∃ o, H a = some o ∧ (∀ xs, o ≠ .tup xs) ∧ (∀ b u, o ≠ .frz b u)) {S : List Addr} (sub : ∀ a ∈ S, a ∈ F) : ∀ a ∈ S, ∀ xs, H a ≠ some (.tup xs) := fun a ha xs e => by
  obtain ⟨o, e2, n, _⟩ := h a (sub a ha)
  rw [e] at e2; exact n xs (Option.some.inj e2).symm
def LSt.setc (x : LSt) (f o k : Nat) (v : V) : LSt := { x with ls := x.ls.map (setR f o k v) }
theorem hdL_set (f o k : Nat) (v : V) (l : List Rm) : hdL (l.map (setR f o k v)) = hdL l :=
  map_set (fun r => (r.key, V.ref r.c)) f o k v (fun z => by obtain ⟨e1, e2, e3, _⟩ := setR_eq f o k v z; unfold Rm.key; rw [e1, e2, e3]) l
theorem pk_same {l : List Rm} (h : (l.map pk).Nodup) {r q : Rm} (hr : r ∈ l) (hq : q ∈ l) (e1 : q.f = r.f) (e2 : q.o = r.o) : q = r := by
  by_cases c : q = r
  · exact c
  · exact absurd (Prod.ext e1 e2 : pk q = pk r) (nodup_ne h hq hr c)
theorem LmAt.setc {H H' : Hp} {x : LSt} {r : Rm} {k : Nat} {v : V} (y : LmAt H x) (hr : r ∈ x.ls) (kp : Kp [r.c] H H') (ec : H' r.c = some (.lst (r.cells.set k v))) : LmAt H' (x.setc r.f r.o k v) := by
  have er := y.cl r hr
  have g : ∀ {a o}, H a = some o → a ≠ r.c → H' a = some o := fun {a o} e h => kp a o e fun z => h (by simpa using z)
  have gd : ∀ {a o}, H a = some o → (∀ xs, o ≠ .lst xs) → H' a = some o := fun {a o} e h => g e fun z => by rw [z, er] at e; exact h _ (Option.some.inj e).symm
  have mc := map_set (fun z : Rm => z.c) r.f r.o k v (fun z => (setR_eq r.f r.o k v z).2.2.1) x.ls
  have mw := map_set (fun z : Rm => V.ref z.w) r.f r.o k v (fun z => by rw [(setR_eq r.f r.o k v z).2.2.2.1]) x.ls
  have mp := map_set pk r.f r.o k v (fun z => by unfold pk; rw [(setR_eq r.f r.o k v z).1, (setR_eq r.f r.o k v z).2.1]) x.ls
  have rc : r.c ∈ x.ls.map (·.c) := List.mem_map.mpr ⟨r, hr, rfl⟩
  refine ⟨gd y.d (fun _ z => by cases z), g y.lh (fun z => y.s1 (z ▸ rc)), g y.lt (fun z => y.s2 (z ▸ rc)), ?_, ?_, fun q hq => ?_, fun q hq => ?_, y.n1, y.n2, y.n3, ?_, ?_, ?_, ?_, ?_⟩
  · show H' x.mw = some (HO.lst ((x.ls.map (setR r.f r.o k v)).map fun z : Rm => V.ref z.w))
    rw [mw]
    exact g y.lw (fun z => y.s3 (z ▸ rc))
  · show H' x.mc = some (HO.dT (hdL (x.ls.map (setR r.f r.o k v))))
    rw [hdL_set]
    exact gd y.lc (fun _ z => by cases z)
  · obtain ⟨z, hz, rfl⟩ := List.mem_map.mp hq
    rw [(setR_eq r.f r.o k v z).2.2.1]
    by_cases c : z.f = r.f ∧ z.o = r.o
    · have := pk_same y.kn hr hz c.1 c.2
      subst this
      rw [ec]
      unfold setR
      rw [if_pos ⟨rfl, rfl⟩]
    · have zc : z.c ≠ r.c := nodup_ne y.sp hz hr fun e => c (by rw [e]; exact ⟨rfl, rfl⟩)
      rw [g (y.cl z hz) zc]
      unfold setR
      rw [if_neg c]
  · obtain ⟨z, hz, rfl⟩ := List.mem_map.mp hq
    rw [(setR_eq r.f r.o k v z).1, (setR_eq r.f r.o k v z).2.1, (setR_eq r.f r.o k v z).2.2.2.1]
    exact gd (y.wl z hz) (fun _ z => by cases z)
  · show ((x.ls.map (setR r.f r.o k v)).map fun z : Rm => z.c).Nodup
    rw [mc]; exact y.sp
  · show x.mh ∉ (x.ls.map (setR r.f r.o k v)).map fun z : Rm => z.c
    rw [mc]; exact y.s1
  · show x.mt ∉ (x.ls.map (setR r.f r.o k v)).map fun z : Rm => z.c
    rw [mc]; exact y.s2
  · show x.mw ∉ (x.ls.map (setR r.f r.o k v)).map fun z : Rm => z.c
    rw [mc]; exact y.s3
  · show ((x.ls.map (setR r.f r.o k v)).map pk).Nodup
    rw [mp]; exact y.kn
def setT (f o k : Nat) (v : V) (t : Nat × Nat × List V) : Nat × Nat × List V := if t.1 = f ∧ t.2.1 = o then (t.1, t.2.1, t.2.2.set k v) else t
theorem rho_set (f o k : Nat) (v : V) (l : List Rm) : (l.map (setR f o k v)).map rho = (l.map rho).map (setT f o k v) := by
  rw [List.map_map, List.map_map]
  refine List.map_congr_left fun z _ => ?_
  show rho (setR f o k v z) = setT f o k v (rho z)
  unfold setR setT rho
  by_cases c : z.f = f ∧ z.o = o
  · rw [if_pos c, if_pos c]
  · rw [if_neg c, if_neg c]
theorem ValM.mono {l m : List Rm} {v : V} (x : ValM l v) (h : ∀ r ∈ l, ∃ q ∈ m, q.w = r.w) : ValM m v := by
  rcases x with e | e | ⟨r, hr, e⟩
  · exact .inl e
  · exact .inr (.inl e)
  · obtain ⟨q, hq, eq⟩ := h r hr
    exact .inr (.inr ⟨q, hq, by rw [eq]; exact e⟩)
theorem set_foot (s : HSt) (f o k : Nat) (v : V) : (s.setc f o k v).foot = s.foot := by
  have e : ((s.setc f o k v).here.map fun z : Rm => z.c) = s.here.map fun z : Rm => z.c := by
    rw [set_here]; exact map_set (fun z : Rm => z.c) f o k v (fun z => (setR_eq f o k v z).2.2.1) s.here
  unfold HSt.foot
  rw [e]; rfl
theorem set_lfoot (x : LSt) (f o k : Nat) (v : V) : (x.setc f o k v).foot = x.foot := by
  have e : ((x.setc f o k v).ls.map fun z : Rm => z.c) = x.ls.map fun z : Rm => z.c := map_set (fun z : Rm => z.c) f o k v (fun z => (setR_eq f o k v z).2.2.1) x.ls
  unfold LSt.foot
  rw [e]; rfl
theorem HM.setc {K : PySem.W.Frag} {H H' : Hp} {s : HSt} {x : LSt} {r : Rm} {k : Nat} {v : V} (y : HM K H s x) (hv : ValM x.ls v) (ho : HoAt (CH K) H' (s.setc r.f r.o k v)) (lm : LmAt H' (x.setc r.f r.o k v)) : HM K H' (s.setc r.f r.o k v) (x.setc r.f r.o k v) := by
  have mono : ∀ q ∈ x.ls, ∃ p ∈ (x.setc r.f r.o k v).ls, p.w = q.w := fun q hq => ⟨setR r.f r.o k v q, List.mem_map.mpr ⟨q, hq, rfl⟩, (setR_eq r.f r.o k v q).2.2.2.1⟩
  refine ⟨ho, lm, y.eh, y.et, ?_, y.gr, y.tk, fun q hq u hu => ?_, y.lim, y.tp, ?_⟩
  · show (x.ls.map (setR r.f r.o k v)).map rho = (s.rs.map (setR r.f r.o k v)).map rho
    rw [rho_set, rho_set, y.er]
  · obtain ⟨z, hz, rfl⟩ := List.mem_map.mp hq
    unfold setR at hu
    split at hu
    · rcases List.mem_or_eq_of_mem_set hu with m | m
      · exact (y.vm z hz u m).mono mono
      · rw [m]; exact hv.mono mono
    · exact (y.vm z hz u hu).mono mono
  · rw [set_foot, set_lfoot]; exact y.dj
/-- what may have changed with a deed -/
def Grow (H : Hp) (s : HSt) (x : LSt) (s' : HSt) (x' : LSt) : Prop := s'.p = s.p ∧ x'.m = x.m ∧ (∀ a, a ∈ s'.foot ∨ a ∈ x'.foot → a ∈ s.foot ∨ a ∈ x.foot ∨ H a = none) ∧ s'.rs.length ≤ s.rs.length + 1 ∧ s'.most = s.most

end Lw
namespace Lw
open PySem PySem.Spec L2 FG
open PyProof.Rows hiding St
/-! ### what is where behind a frame begun or ended, and a room made -/
def LSt.withF (x : LSt) (hs ts : List (Option Int)) : LSt := { x with hs := hs, ts := ts }
theorem LmAt.withF {H H' : Hp} {x : LSt} {hs ts : List (Option Int)} (y : LmAt H x) (kp : Kp [x.mh, x.mt] H H') (m : ModK H' x.kv x.m x.mh x.mt hs ts) : LmAt H' (x.withF hs ts) := by
  have g : ∀ {a o}, H a = some o → a ≠ x.mh → a ≠ x.mt → H' a = some o := fun {a o} e h1 h2 => kp a o e (by simp [h1, h2])
  have gd : ∀ {a o}, H a = some o → (∀ xs, o ≠ .lst xs) → H' a = some o := fun {a o} e h => g e (fun z => by rw [z, y.lh] at e; exact h _ (Option.some.inj e).symm) (fun z => by rw [z, y.lt] at e; exact h _ (Option.some.inj e).symm)
  exact ⟨m.d, m.lh, m.lt, g y.lw y.n2.symm y.n3.symm, gd y.lc (fun _ z => by cases z), fun r hr => g (y.cl r hr) (fun z => y.s1 (List.mem_map.mpr ⟨r, hr, z⟩)) (fun z => y.s2 (List.mem_map.mpr ⟨r, hr, z⟩)),
    fun r hr => gd (y.wl r hr) (fun _ z => by cases z), y.n1, y.n2, y.n3, y.sp, y.s1, y.s2, y.s3, y.kn⟩
theorem taken_up {f : Nat} : ∀ (ks : List Nat) (ts : List (Option Int)) (i : Nat), (taken ts ks f)[i]? = some none → ts[i]? = some none := by
  intro ks
  induction ks with
  | nil => intro ts i h; exact h
  | cons k ks ih =>
    intro ts i h
    have z := ih (ts.set k (some (f : Int))) i h
    rw [List.getElem?_set] at z
    split at z
    · split at z <;> cases z
    · exact z
theorem ended_foot {s : HSt} {ks : List Nat} {f : Nat} : ∀ a ∈ (s.withF s.hs (taken s.ts ks f)).foot, a ∈ s.foot := by
  intro a ha
  unfold HSt.foot at ha ⊢
  rcases List.mem_append.mp ha with h | h
  · exact List.mem_append_left _ h
  · refine List.mem_append_right _ ?_
    obtain ⟨r, hr, e⟩ := List.mem_map.mp h
    obtain ⟨h1, h2⟩ := List.mem_filter.mp hr
    exact List.mem_map.mpr ⟨r, mem_here h1 (decide_eq_true (taken_up ks s.ts r.f (of_decide_eq_true h2))), e⟩
theorem begun_foot {s : HSt} (x : HPl s) (wl : s.ts.length = s.hs.length) (hs : List (Option Int)) : (s.withF hs (s.ts ++ [none])).foot = s.foot := by
  unfold HSt.foot
  rw [begun_here x wl hs]; rfl
theorem HM.withF {K : PySem.W.Frag} {H H' : Hp} {s : HSt} {x : LSt} {hs ts : List (Option Int)} (y : HM K H s x) (ho : HoAt (CH K) H' (s.withF hs ts)) (lm : LmAt H' (x.withF hs ts)) (g : ts[0]? = some none) (tk : TOk ts) (sub : ∀ a ∈ (s.withF hs ts).foot, a ∈ s.foot) : HM K H' (s.withF hs ts) (x.withF hs ts) :=
  ⟨ho, lm, rfl, rfl, y.er, g, tk, y.vm, y.lim, y.tp, fun a ha => y.dj a (sub a ha)⟩
theorem made_foot {s : HSt} {f k : Nat} {a c w : Addr} (h : s.ts[f]? = some none) : ∀ b ∈ (s.made f k a c w).foot, b ∈ s.foot ∨ b = a ∨ b = c := by
  intro b hb
  unfold HSt.foot at hb ⊢
  rw [made_here h, List.map_append] at hb
  rcases List.mem_append.mp hb with z | z
  · rcases List.mem_append.mp z with z | z
    · exact .inl (List.mem_append_left _ (List.mem_append_left _ z))
    · obtain ⟨q, hq, rfl⟩ := List.mem_map.mp z
      rcases gsPut_mem hq with e | ⟨e, _⟩
      · rw [e]; exact .inr (.inl rfl)
      · exact .inl (List.mem_append_left _ (List.mem_append_right _ (List.mem_map.mpr ⟨q, e, rfl⟩)))
  · rcases List.mem_append.mp z with z | z
    · exact .inl (List.mem_append_right _ z)
    · exact .inr (.inr (by simpa using z))
theorem made_lfoot {x : LSt} {f k t : Nat} {c w : Addr} : ∀ b ∈ (x.made f k t c w).foot, b ∈ x.foot ∨ b = c := by
  intro b hb
  rcases List.mem_append.mp hb with z | z
  · exact .inl (List.mem_append_left _ z)
  · have z2 : b ∈ (x.ls ++ [(⟨f, szs (x.giv f), List.replicate k .non, c, w⟩ : Rm)]).map fun r : Rm => r.c := z
    rw [List.map_append] at z2
    rcases List.mem_append.mp z2 with z | z
    · exact .inl (List.mem_append_right _ z)
    · exact .inr (by simpa using z)
theorem HM.made {K : PySem.W.Frag} {H H' : Hp} {s : HSt} {x : LSt} {f k t : Nat} {a c w c2 w2 : Addr} (y : HM K H s x) (hup : s.ts[f]? = some none) (ho : HoAt (CH K) H' (s.made f k a c w)) (lm : LmAt H' (x.made f k t c2 w2)) (d1 : a ∉ x.foot) (d2 : c ∉ x.foot) (d3 : ∀ b ∈ (s.made f k a c w).foot, b ≠ c2) (ht : t = max x.top (szs x.here + k)) :
    HM K H' (s.made f k a c w) (x.made f k t c2 w2) := by
  refine ⟨ho, lm, y.eh, y.et, ?_, y.gr, y.tk, fun r hr v hv => ?_, y.lim, (by show t = max s.top (s.used + k); rw [ht, y.tp, y.eUsed]), fun b hb hb2 => ?_⟩
  · show (x.ls ++ [(⟨f, szs (x.giv f), List.replicate k .non, c2, w2⟩ : Rm)]).map rho = (s.rs ++ [(⟨f, s.fill f, List.replicate k .non, c, w⟩ : Rm)]).map rho
    rw [List.map_append, List.map_append, y.er]
    congr 1
    show [rho _] = [rho _]
    unfold rho
    rw [y.eFill f]
  · have mono : ∀ q ∈ x.ls, ∃ p ∈ (x.made f k t c2 w2).ls, p.w = q.w := fun q hq => ⟨q, List.mem_append_left _ hq, rfl⟩
    rcases List.mem_append.mp hr with z | z
    · exact (y.vm r z v hv).mono mono
    · rw [List.mem_singleton] at z; subst z
      exact .inl (List.eq_of_mem_replicate hv)
  · rcases made_lfoot b hb2 with z | z
    · rcases made_foot hup b hb with e | e | e
      · exact y.dj b e z
      · exact d1 (e ▸ z)
      · exact d2 (e ▸ z)
    · exact d3 b hb z
def wayD (f o : Nat) : PyData := .tuple [.int (f : Int), .int (o : Int)]
theorem okD_way {f o : Nat} (hf : f < 1000000000) (ho : o < 1000000000) : okD (wayD f o) = true := by
  have e1 : (10 : Nat) ^ 38 = 100000000000000000000000000000000000000 := by decide
  simp only [wayD, okD, okDs, Bool.and_true, Bool.and_eq_true, decide_eq_true_eq, e1]; omega
theorem bulk_way (f o : Nat) : (wayD f o).bulk = 2 := by simp only [wayD, PyData.bulk, PyData.bulkAll]
theorem depth_way (f o : Nat) : (wayD f o).depth = 1 := by simp only [wayD, PyData.depth, PyData.depthAll]; rfl
theorem dp_way {K : PySem.W.Frag} {H : Hp} {w : Addr} {f o : Nat} (e : H w = some (.tup [.int (f : Int), .int (o : Int)])) : Dp K H (.ref w) (wayD f o) := .tup (SqT.of e) (.cons (.int _) (.cons (.int _) .nil))
theorem shw_way {K : PySem.W.Frag} {H : Hp} {w : Addr} {f o : Nat} (e : H w = some (.tup [.int (f : Int), .int (o : Int)])) (hf : f < 1000000000) (ho : o < 1000000000) : Shw K H (.ref w) (wayD f o) :=
  shw_at (dp_way e) (okD_way hf ho) (by rw [bulk_way]; omega) (by rw [depth_way]; omega)
theorem szs_le {l : List Rm} (h : ∀ r ∈ l, r.cells.length ≤ 6) : szs l ≤ 6 * l.length := by
  unfold szs
  induction l with
  | nil => simp
  | cons r l ih =>
    have h1 := h r (by simp)
    have h2 := ih fun x hx => h x (by simp [hx])
    simp; omega
theorem HM.fillLe {K : PySem.W.Frag} {H : Hp} {s : HSt} {x : LSt} (y : HM K H s x) (f : Nat) : s.fill f ≤ 6 * s.rs.length := by
  have h1 : s.fill f ≤ 6 * (s.giv f).length := szs_le fun r hr => (y.ho.pl.sz r (mem_giv.mp hr).1).2
  have h2 : (s.giv f).length ≤ s.rs.length := List.length_filter_le _ _
  omega
theorem fresh_of {K : PySem.W.Frag} {H H' : Hp} {s : HSt} {x : LSt} {b a : Addr} {m : Int} (k : Kp (b :: (s.foot ++ x.foot)) H H') (y : HM K H' s x) (bx : BoxAt H' b m) (e : H' a = none) : H a = none := by
  cases e1 : H a with
  | none => rfl
  | some o =>
    by_cases hin : a ∈ b :: (s.foot ++ x.foot)
    · simp only [List.mem_cons, List.mem_append] at hin
      rcases hin with hin | hin | hin
      · obtain ⟨_, _, _, e2, _⟩ := bx; rw [hin, e2] at e; cases e
      · obtain ⟨o2, e2, _⟩ := y.ho.std a hin; rw [e2] at e; cases e
      · obtain ⟨o2, e2, _⟩ := y.lm.std a hin; rw [e2] at e; cases e
    · rw [k a o e1 hin] at e; cases e

end Lw
namespace Lw
open PySem PySem.Spec L2 FG
open PyProof.Rows hiding St
/-! ### the texts of cells and ways -/
/-- tuples are kept -/
def TK (H H' : Hp) : Prop := ∀ a xs, H a = some (.tup xs) → H' a = some (.tup xs)
theorem Kp.tk {H H' : Hp} (k : Kp [] H H') : TK H H' := fun a xs e => k a _ e (by simp)
theorem Kp.tkS {S : List Addr} {H H' : Hp} (k : Kp S H H') (h : ∀ a ∈ S, ∀ xs, H a ≠ some (.tup xs)) : TK H H' := fun a xs e => k a _ e fun z => h a z xs e
theorem TK.trans {H H1 H2 : Hp} (a : TK H H1) (b : TK H1 H2) : TK H H2 := fun c xs e => b c xs (a c xs e)
theorem val_d {K : PySem.W.Frag} {H : Hp} {x : LSt} (y : LmAt H x) (hs : ∀ r ∈ x.ls, r.f < 1000000000 ∧ r.o < 1000000000) {v : V} (h : ValM x.ls v) : ∃ d, (∀ H', TK H H' → Dp K H' v d) ∧ okD d = true ∧ d.bulk ≤ 2 ∧ d.depth ≤ 1 := by
  rcases h with e | ⟨z, e, hz⟩ | ⟨r, hr, e⟩
  · subst e
    exact ⟨.none, fun _ _ => .non, by simp only [okD], by simp only [PyData.bulk]; omega, by simp only [PyData.depth]; omega⟩
  · subst e
    exact ⟨.int z, fun _ _ => .int z, by simp only [okD, decide_eq_true_eq]; exact Nat.lt_trans hz (by decide), by simp only [PyData.bulk]; omega, by simp only [PyData.depth]; omega⟩
  · subst e
    obtain ⟨h1, h2⟩ := hs r hr
    exact ⟨wayD r.f r.o, fun H' k => dp_way (k _ _ (y.wl r hr)), okD_way h1 h2, by rw [bulk_way]; omega, by rw [depth_way]; omega⟩
theorem cells_d {K : PySem.W.Frag} {H : Hp} {x : LSt} (y : LmAt H x) (hs : ∀ r ∈ x.ls, r.f < 1000000000 ∧ r.o < 1000000000) : ∀ xs : List V, (∀ v ∈ xs, ValM x.ls v) → ∃ ds, (∀ H', TK H H' → DpAll K H' xs ds) ∧ okDs ds = true ∧ PyData.bulkAll ds ≤ 3 * xs.length ∧ PyData.depthAll ds ≤ 1
  | [], _ => ⟨[], fun _ _ => .nil, by simp only [okDs], by simp only [PyData.bulkAll]; omega, by simp only [PyData.depthAll]; omega⟩
  | v :: xs, h => by
    obtain ⟨d, a1, a2, a3, a4⟩ := val_d (K := K) y hs (h v (by simp))
    obtain ⟨ds, b1, b2, b3, b4⟩ := cells_d y hs xs fun u hu => h u (by simp [hu])
    refine ⟨d :: ds, fun H' k => .cons (a1 H' k) (b1 H' k), by simp only [okDs, a2, b2, Bool.and_self], ?_, ?_⟩
    · simp only [PyData.bulkAll, List.length_cons]; omega
    · simp only [PyData.depthAll]; omega
theorem shw_list {K : PySem.W.Frag} {H : Hp} {a : Addr} {xs : List V} {ds : List PyData} (e : H a = some (.lst xs)) (h : DpAll K H xs ds) (ok : okDs ds = true) (hb : PyData.bulkAll ds ≤ 300000) (hd : PyData.depthAll ds ≤ 1) : Shw K H (.ref a) (.list ds) :=
  shw_at (.lst (SqL.of e) h) (by simp only [okD]; exact ok) (by simp only [PyData.bulk]; exact hb) (by simp only [PyData.depth]; omega)
def waysD (l : List Rm) : List PyData := (l.map pk).map fun t => wayD t.1 t.2
theorem ways_dp {K : PySem.W.Frag} {H : Hp} : ∀ l : List Rm, (∀ r ∈ l, H r.w = some (.tup [.int (r.f : Int), .int (r.o : Int)])) → DpAll K H (l.map fun r => .ref r.w) (waysD l)
  | [], _ => .nil
  | r :: l, h => .cons (dp_way (h r (by simp))) (ways_dp l fun q hq => h q (by simp [hq]))
theorem ways_ok : ∀ l : List Rm, (∀ r ∈ l, r.f < 1000000000 ∧ r.o < 1000000000) → okDs (waysD l) = true ∧ PyData.bulkAll (waysD l) = 3 * l.length ∧ PyData.depthAll (waysD l) ≤ 1
  | [], _ => ⟨by simp only [waysD, List.map_nil, okDs], by simp only [waysD, List.map_nil, PyData.bulkAll, List.length_nil], by simp only [waysD, List.map_nil, PyData.depthAll]; omega⟩
  | r :: l, h => by
    obtain ⟨a1, a2, a3⟩ := ways_ok l fun q hq => h q (by simp [hq])
    obtain ⟨h1, h2⟩ := h r (by simp)
    have e : waysD (r :: l) = wayD r.f r.o :: waysD l := rfl
    rw [e]
    refine ⟨by simp only [okDs, okD_way h1 h2, a1, Bool.and_self], ?_, ?_⟩
    · simp only [PyData.bulkAll, bulk_way, a2, List.length_cons]; omega
    · simp only [PyData.depthAll, depth_way]; omega
theorem shw_ways {K : PySem.W.Frag} {H : Hp} {a : Addr} {l : List Rm} (e : H a = some (.lst (l.map fun r => .ref r.w))) (h : ∀ r ∈ l, H r.w = some (.tup [.int (r.f : Int), .int (r.o : Int)])) (hs : ∀ r ∈ l, r.f < 1000000000 ∧ r.o < 1000000000) (hl : l.length ≤ 100000) : Shw K H (.ref a) (.list (waysD l)) := by
  obtain ⟨a1, a2, a3⟩ := ways_ok l hs
  exact shw_list e (ways_dp l h) a1 (by rw [a2]; omega) a3
theorem HM.small {K : PySem.W.Frag} {H : Hp} {s : HSt} {x : LSt} (y : HM K H s x) (hl : s.rs.length ≤ 10000) : (∀ r ∈ s.rs, r.f < 1000000000 ∧ r.o < 1000000000) ∧ ∀ r ∈ x.ls, r.f < 1000000000 ∧ r.o < 1000000000 := by
  have ws := y.ho.wf.small
  have h1 : ∀ r ∈ s.rs, r.f < 1000000000 ∧ r.o < 1000000000 := fun r hr => by
    have a1 := y.ho.pl.fl r hr
    have a2 := y.ho.pl.ro r hr
    have a3 := y.fillLe r.f
    exact ⟨by omega, by omega⟩
  refine ⟨h1, fun r hr => ?_⟩
  obtain ⟨q, hq, e1, e2, _⟩ := rho_mem y.er hr
  have := h1 q hq
  rw [e1, e2] at this; exact this

end Lw
namespace Lw
open PySem PySem.Spec L2 FG
open PyProof.Rows hiding St
/-! ### two houses side by side -/
theorem made_kp {H H1 : Hp} {p d : Addr} {u v : HO} (hp : H p = none) (hd : H d = none) (k : Kp [p] (upd (upd H d u) p v) H1) : Kp [] H H1 := fun b o e _ =>
  k b o (by rw [upd_ne (ne_of_none e hp), upd_ne (ne_of_none e hd)]; exact e) (by simpa using ne_of_none e hp)
theorem made_free {H : Hp} {p d b : Addr} {u v : HO} (n : upd (upd H d u) p v b = none) : H b = none := by
  have np : b ≠ p := fun c => by rw [c, upd_same] at n; cases n
  rw [upd_ne np] at n
  by_cases c : b = d
  · rw [c, upd_same] at n; cases n
  · rw [upd_ne c] at n; exact n
/-- a house, and the law's beside it -/
structure Hs where
  (s : HSt) (x : LSt)
def Hs.foot (u : Hs) : List Addr := u.s.foot ++ u.x.foot
theorem HM.std {K : PySem.W.Frag} {H : Hp} {u : Hs} (y : HM K H u.s u.x) : ∀ a ∈ u.foot, ∃ o, H a = some o ∧ (∀ xs, o ≠ .tup xs) ∧ (∀ b v, o ≠ .frz b v) := fun a ha => by
  rcases List.mem_append.mp ha with z | z
  · exact y.ho.std a z
  · exact y.lm.std a z
structure Two (K : PySem.W.Frag) (H : Hp) (N : Nat) (u v : Hs) : Prop where
  a : HM K H u.s u.x
  b : HM K H v.s v.x
  na : u.s.rs.length ≤ N
  nb : v.s.rs.length ≤ N
  dj : ∀ c ∈ u.foot, c ∉ v.foot
theorem Two.symm {K : PySem.W.Frag} {H : Hp} {N : Nat} {u v : Hs} (t : Two K H N u v) : Two K H N v u := ⟨t.b, t.a, t.nb, t.na, fun c h1 h2 => t.dj c h2 h1⟩
theorem Two.more {K : PySem.W.Frag} {H : Hp} {N M : Nat} {u v : Hs} (t : Two K H N u v) (h : N ≤ M) : Two K H M u v := ⟨t.a, t.b, Nat.le_trans t.na h, Nat.le_trans t.nb h, t.dj⟩
theorem Two.kp {K : PySem.W.Frag} {H H' : Hp} {N : Nat} {u v : Hs} {S : List Addr} (t : Two K H N u v) (k : Kp S H H') (h1 : ∀ c ∈ S, c ∉ u.foot ∧ c ∉ v.foot) (hT : ∀ c ∈ S, ∀ xs, H c ≠ some (.tup xs)) : Two K H' N u v :=
  ⟨t.a.kp k (fun c hc z => (h1 c hc).1 (List.mem_append_left _ z)) (fun c hc z => (h1 c hc).1 (List.mem_append_right _ z)) hT, t.b.kp k (fun c hc z => (h1 c hc).2 (List.mem_append_left _ z)) (fun c hc z => (h1 c hc).2 (List.mem_append_right _ z)) hT, t.na, t.nb, t.dj⟩
/-- a deed on the first -/
theorem Two.deed {K : PySem.W.Frag} {H H' : Hp} {N : Nat} {u v u' : Hs} {b : Addr} {n : Int} (t : Two K H N u v) (bx : BoxAt H b n) (k : Kp (b :: u.foot) H H') (m : HM K H' u'.s u'.x) (g : Grow H u.s u.x u'.s u'.x) (nb : b ∉ v.foot) : Two K H' (N + 1) u' v := by
  have hS : ∀ c ∈ b :: u.foot, c ∉ v.foot := fun c hc => by
    rcases List.mem_cons.mp hc with z | z
    · rw [z]; exact nb
    · exact t.dj c z
  have hT : ∀ c ∈ b :: u.foot, ∀ xs, H c ≠ some (.tup xs) := fun c hc xs e => by
    rcases List.mem_cons.mp hc with z | z
    · exact bx.nt c (by rw [z]; simp) xs e
    · obtain ⟨o, e2, n2, _⟩ := t.a.std c z
      rw [e] at e2; exact n2 xs (Option.some.inj e2).symm
  refine ⟨m, t.b.kp k (fun c hc z => hS c hc (List.mem_append_left _ z)) (fun c hc z => hS c hc (List.mem_append_right _ z)) hT, ?_, Nat.le_trans t.nb (by omega), fun c hc hv => ?_⟩
  · have := g.2.2.2.1; have := t.na; omega
  · rcases g.2.2.1 c (List.mem_append.mp hc) with z | z | z
    · exact t.dj c (List.mem_append_left _ z) hv
    · exact t.dj c (List.mem_append_right _ z) hv
    · obtain ⟨o, e, _⟩ := t.b.std c hv
      rw [e] at z; cases z
/-- what is beside stays beside -/
theorem Grow.out {H : Hp} {u u' : Hs} (g : Grow H u.s u.x u'.s u'.x) {c : Addr} {o : HO} (e : H c = some o) (h : c ∉ u.foot) : c ∉ u'.foot := fun z => by
  rcases g.2.2.1 c (List.mem_append.mp z) with z | z | z
  · exact h (List.mem_append_left _ z)
  · exact h (List.mem_append_right _ z)
  · rw [e] at z; cases z
structure LI (K : PySem.W.Frag) (H : Hp) (N : Nat) (a bl ml p q m l : Addr) (mu mv : Nat) (ns : List Int) (u v : Hs) : Prop where
  scr : Scr K H a ns
  eb : H bl = some (.lst [.ref p, .ref q])
  em : H ml = some (.lst [.ref m, .ref l])
  t : Two K H N u v
  up : u.s.p = p ∧ u.x.m = m ∧ u.s.most = mu
  vp : v.s.p = q ∧ v.x.m = l ∧ v.s.most = mv
  nb : bl ∉ u.foot ∧ bl ∉ v.foot
  nm : ml ∉ u.foot ∧ ml ∉ v.foot
theorem LI.kp {K : PySem.W.Frag} {H H' : Hp} {N : Nat} {a bl ml p q m l b : Addr} {mu mv : Nat} {ns : List Int} {u v : Hs} {n : Int} (y : LI K H N a bl ml p q m l mu mv ns u v) (k : Kp [b] H H') (bx : BoxAt H b n) (hb : b ≠ bl ∧ b ≠ ml ∧ b ∉ u.foot ∧ b ∉ v.foot) : LI K H' N a bl ml p q m l mu mv ns u v :=
  ⟨y.scr.kp k bx.nf, k _ _ y.eb (by simpa using hb.1.symm), k _ _ y.em (by simpa using hb.2.1.symm), y.t.kp k (fun c hc => by rw [List.mem_singleton] at hc; rw [hc]; exact hb.2.2) bx.nt, y.up, y.vp, y.nb, y.nm⟩
theorem LI.kp0 {K : PySem.W.Frag} {H H' : Hp} {N : Nat} {a bl ml p q m l : Addr} {mu mv : Nat} {ns : List Int} {u v : Hs} (y : LI K H N a bl ml p q m l mu mv ns u v) (k : Kp [] H H') : LI K H' N a bl ml p q m l mu mv ns u v :=
  ⟨y.scr.kp0 k, k _ _ y.eb (by simp), k _ _ y.em (by simp), y.t.kp k (fun c hc => by cases hc) (fun c hc => by cases hc), y.up, y.vp, y.nb, y.nm⟩
theorem LI.more {K : PySem.W.Frag} {H : Hp} {N M : Nat} {a bl ml p q m l : Addr} {mu mv : Nat} {ns : List Int} {u v : Hs} (y : LI K H N a bl ml p q m l mu mv ns u v) (h : N ≤ M) : LI K H M a bl ml p q m l mu mv ns u v :=
  ⟨y.scr, y.eb, y.em, y.t.more h, y.up, y.vp, y.nb, y.nm⟩
/-- a box that has just been made lies apart -/
theorem LI.apart {K : PySem.W.Frag} {H : Hp} {N : Nat} {a bl ml p q m l b : Addr} {mu mv : Nat} {ns : List Int} {u v : Hs} (y : LI K H N a bl ml p q m l mu mv ns u v) (hb : H b = none) : b ≠ bl ∧ b ≠ ml ∧ b ∉ u.foot ∧ b ∉ v.foot := by
  refine ⟨fun e => ?_, fun e => ?_, fun e => ?_, fun e => ?_⟩
  · have := y.eb; rw [← e, hb] at this; cases this
  · have := y.em; rw [← e, hb] at this; cases this
  · obtain ⟨o, e2, _⟩ := y.t.a.std b e; rw [hb] at e2; cases e2
  · obtain ⟨o, e2, _⟩ := y.t.b.std b e; rw [hb] at e2; cases e2
theorem keeps {K : PySem.W.Frag} {H H' : Hp} {u : Hs} {b c : Addr} {o : HO} (k : Kp (b :: u.foot) H H') (e : H c = some o) (h1 : c ≠ b) (h2 : c ∉ u.foot) : H' c = some o := k c o e (by simp [h1, h2])
theorem LI.fst {K : PySem.W.Frag} {H H' : Hp} {N : Nat} {a bl ml p q m l b : Addr} {mu mv : Nat} {ns : List Int} {u v u' : Hs} {n : Int} (y : LI K H N a bl ml p q m l mu mv ns u v) (bx : BoxAt H b n) (hb : b ≠ bl ∧ b ≠ ml ∧ b ∉ u.foot ∧ b ∉ v.foot) (k : Kp (b :: u.foot) H H') (hm : HM K H' u'.s u'.x) (g : Grow H u.s u.x u'.s u'.x) :
    LI K H' (N + 1) a bl ml p q m l mu mv ns u' v ∧ b ∉ u'.foot := by
  obtain ⟨_, _, _, ebx, _⟩ := id bx
  refine ⟨⟨y.scr.kp k fun c hc o w e => ?_, keeps (K := K) k y.eb hb.1.symm y.nb.1, keeps (K := K) k y.em hb.2.1.symm y.nm.1, y.t.deed bx k hm g hb.2.2.2, ⟨g.1.trans y.up.1, g.2.1.trans y.up.2.1, g.2.2.2.2.trans y.up.2.2⟩, y.vp, ⟨g.out y.eb y.nb.1, y.nb.2⟩, ⟨g.out y.em y.nm.1, y.nm.2⟩⟩, g.out ebx hb.2.2.1⟩
  rcases List.mem_cons.mp hc with z | z
  · exact bx.nf c (by rw [z]; simp) o w e
  · obtain ⟨o2, e2, _, n2⟩ := y.t.a.std c z
    rw [e] at e2; exact n2 o w (Option.some.inj e2).symm
theorem LI.snd {K : PySem.W.Frag} {H H' : Hp} {N : Nat} {a bl ml p q m l b : Addr} {mu mv : Nat} {ns : List Int} {u v v' : Hs} {n : Int} (y : LI K H N a bl ml p q m l mu mv ns u v) (bx : BoxAt H b n) (hb : b ≠ bl ∧ b ≠ ml ∧ b ∉ u.foot ∧ b ∉ v.foot) (k : Kp (b :: v.foot) H H') (hm : HM K H' v'.s v'.x) (g : Grow H v.s v.x v'.s v'.x) :
    LI K H' (N + 1) a bl ml p q m l mu mv ns u v' ∧ b ∉ v'.foot := by
  obtain ⟨_, _, _, ebx, _⟩ := id bx
  refine ⟨⟨y.scr.kp k fun c hc o w e => ?_, keeps (K := K) k y.eb hb.1.symm y.nb.2, keeps (K := K) k y.em hb.2.1.symm y.nm.2, (y.t.symm.deed bx k hm g hb.2.2.1).symm, y.up, ⟨g.1.trans y.vp.1, g.2.1.trans y.vp.2.1, g.2.2.2.2.trans y.vp.2.2⟩, ⟨y.nb.1, g.out y.eb y.nb.2⟩, ⟨y.nm.1, g.out y.em y.nm.2⟩⟩, g.out ebx hb.2.2.2⟩
  rcases List.mem_cons.mp hc with z | z
  · exact bx.nf c (by rw [z]; simp) o w e
  · obtain ⟨o2, e2, _, n2⟩ := y.t.b.std c z
    rw [e] at e2; exact n2 o w (Option.some.inj e2).symm
theorem hm_start {K : PySem.W.Frag} {H : Hp} {n : Nat} {p h t gd fd sd hd m mh mt mw mc : Addr} (ho : HoAt (CH K) H (HSt.bare p h t gd fd sd hd n)) (lm : LmAt H ⟨m, mh, mt, mw, mc, [none], [none], [], n, 0⟩) (dj : ∀ a ∈ (HSt.bare p h t gd fd sd hd n).foot, a ∉ (⟨m, mh, mt, mw, mc, [none], [none], [], n, 0⟩ : LSt).foot) :
    HM K H (HSt.bare p h t gd fd sd hd n) ⟨m, mh, mt, mw, mc, [none], [none], [], n, 0⟩ :=
  ⟨ho, lm, rfl, rfl, rfl, rfl, (fun i hi => by simp [HSt.bare] at hi), (fun r hr => by cases hr), rfl, rfl, dj⟩
theorem apart_of {H : Hp} {F G : List Addr} (h1 : ∀ a ∈ F, ∃ o, H a = some o) (h2 : ∀ a ∈ G, H a = none) : ∀ a ∈ F, a ∉ G := fun a ha hg => by
  obtain ⟨o, e⟩ := h1 a ha
  rw [h2 a hg] at e; cases e

end Lw
namespace Lw
open PySem PySem.Spec L2 FG
open PyProof.Rows hiding St
/-! ### both make one step -/
theorem fresh_F {F : List Addr} {H H' : Hp} {a : Addr} (k : Kp F H H') (h : ∀ a ∈ F, ∃ o, H' a = some o) (e : H' a = none) : H a = none := by
  cases e1 : H a with
  | none => rfl
  | some o =>
    by_cases hin : a ∈ F
    · obtain ⟨o2, e2⟩ := h a hin; rw [e2] at e; cases e
    · rw [k a o e1 hin] at e; cases e
section
variable {K : PySem.W.Frag} {H H5 H6 : Hp} {s : HSt} {x : LSt} {f : Nat}
theorem HM.md (y : HM K H s x) : ModK H x.kv x.m x.mh x.mt s.hs s.ts := by have z := y.lm.md; rw [y.eh, y.et] at z; exact z
theorem footS (s : HSt) : ∀ a, a ∈ [s.p, s.h, s.t, s.gd, s.fd, s.sd, s.hd] → a ∈ s.foot := fun a h => List.mem_append_left _ (List.mem_append_left _ h)
theorem footX (x : LSt) : ∀ a, a ∈ [x.m, x.mh, x.mt, x.mw, x.mc] → a ∈ x.foot := fun a h => List.mem_append_left _ h
/-- the house alone has moved -/
theorem HM.lmS (y : HM K H s x) {S : List Addr} (k : Kp S H H5) (h : ∀ a ∈ S, a ∈ [s.p, s.h, s.t, s.gd, s.fd, s.sd, s.hd]) : LmAt H5 x := y.lm.kp k (fun a ha => y.dj a (footS s a (h a ha))) (not_tup y.ho.std fun a ha => footS s a (h a ha))
theorem HM.mdS (y : HM K H s x) {S : List Addr} (k : Kp S H H5) (h : ∀ a ∈ S, a ∈ [s.p, s.h, s.t, s.gd, s.fd, s.sd, s.hd]) : ModK H5 x.kv x.m x.mh x.mt s.hs s.ts := by have z := (y.lmS k h).md; rw [y.eh, y.et] at z; exact z
theorem HM.finish2 (y : HM K H s x) (hf0 : 0 < f) (hfl : f < s.ts.length) (k5 : Kp [s.t, s.hd] H H5) (ho5 : HoAt (CH K) H5 (s.withF s.hs (taken s.ts (fin s.hs s.ts f) f))) (k6 : Kp [x.mt] H5 H6) (md6 : ModK H6 x.kv x.m x.mh x.mt s.hs (taken s.ts (fin s.hs s.ts f) f)) :
    HM K H6 (s.withF s.hs (taken s.ts (fin s.hs s.ts f) f)) (x.withF s.hs (taken s.ts (fin s.hs s.ts f) f)) ∧ Kp (s.foot ++ x.foot) H H6 ∧ Grow H s x (s.withF s.hs (taken s.ts (fin s.hs s.ts f) f)) (x.withF s.hs (taken s.ts (fin s.hs s.ts f) f)) := by
  have wf := y.ho.wf
  have wl := wf.len
  have ws := wf.small
  have s5 : ∀ a ∈ [s.t, s.hd], a ∈ [s.p, s.h, s.t, s.gd, s.fd, s.sd, s.hd] := fun a ha => by simp only [List.mem_cons, List.not_mem_nil, or_false] at ha ⊢; rcases ha with z | z <;> simp [z]
  have lm5 := y.lmS k5 s5
  have s6 : ∀ a ∈ [x.mt], a ∈ x.foot := fun a ha => footX x a (by simp only [List.mem_cons, List.not_mem_nil, or_false] at ha ⊢; simp [ha])
  have ef := ended_foot (s := s) (ks := fin s.hs s.ts f) (f := f)
  have ho6 := ho5.kp k6 (fun a ha z => y.dj a (ef a z) (s6 a ha)) (not_tup lm5.std s6)
  have lm6 := lm5.withF (k6.mono (by simp)) md6
  refine ⟨y.withF ho6 lm6 (ground_stays wf y.gr hf0) (y.tk.taken (by omega) _) ef, (k5.mono fun a ha => List.mem_append_left _ (footS s a (s5 a ha))).trans (k6.mono fun a ha => List.mem_append_right _ (s6 a ha)), rfl, rfl, fun a ha => ?_, by show s.rs.length ≤ _; omega, rfl⟩
  rcases ha with z | z
  · exact .inl (ef a z)
  · exact .inr (.inl z)
theorem HM.begin2 (y : HM K H s x) (k5 : Kp [s.h, s.t] H H5) (fr5 : FrAt (CH K) H5 s.p s.h s.t (s.hs ++ [some (f : Int)]) (s.ts ++ [none])) (k6 : Kp [x.mh, x.mt] H5 H6) (md6 : ModK H6 x.kv x.m x.mh x.mt (s.hs ++ [some (f : Int)]) (s.ts ++ [none])) :
    HM K H6 (s.withF (s.hs ++ [some (f : Int)]) (s.ts ++ [none])) (x.withF (s.hs ++ [some (f : Int)]) (s.ts ++ [none])) ∧ Kp (s.foot ++ x.foot) H H6 ∧ Grow H s x (s.withF (s.hs ++ [some (f : Int)]) (s.ts ++ [none])) (x.withF (s.hs ++ [some (f : Int)]) (s.ts ++ [none])) := by
  have wf := y.ho.wf
  have wl := wf.len
  have s5 : ∀ a ∈ [s.h, s.t], a ∈ [s.p, s.h, s.t, s.gd, s.fd, s.sd, s.hd] := fun a ha => by simp only [List.mem_cons, List.not_mem_nil, or_false] at ha ⊢; rcases ha with z | z <;> simp [z]
  have lm5 := y.lmS k5 s5
  have ho5 := y.ho.begun k5 fr5
  have s6 : ∀ a ∈ [x.mh, x.mt], a ∈ x.foot := fun a ha => footX x a (by simp only [List.mem_cons, List.not_mem_nil, or_false] at ha ⊢; rcases ha with z | z <;> simp [z])
  have ef := begun_foot y.ho.pl wl (s.hs ++ [some (f : Int)])
  have ho6 := ho5.kp k6 (fun a ha z => y.dj a (ef ▸ z) (s6 a ha)) (not_tup lm5.std s6)
  have lm6 := lm5.withF k6 md6
  refine ⟨y.withF ho6 lm6 ?_ y.tk.more (fun a ha => ef ▸ ha), (k5.mono fun a ha => List.mem_append_left _ (footS s a (s5 a ha))).trans (k6.mono fun a ha => List.mem_append_right _ (s6 a ha)), rfl, rfl, fun a ha => ?_, by show s.rs.length ≤ _; omega, rfl⟩
  · rw [List.getElem?_append_left (by have := wf.pos; omega)]; exact y.gr
  · rw [ef] at ha
    rcases ha with z | z
    · exact .inl z
    · exact .inr (.inl z)
theorem HM.fresh2 (y : HM K H s x) : ∀ r ∈ x.ls, ¬ (r.f = f ∧ r.o = szs (x.giv f)) := fun r hr2 z => by
  obtain ⟨p, hp, e1, e2, _⟩ := rho_mem y.er hr2
  exact new_key y.ho.pl f p hp ⟨e1.trans z.1, by rw [e2, z.2, y.eFill f]⟩
theorem HM.make2 {k t : Nat} {a c w c2 w2 : Addr} (y : HM K H s x) (hup : s.ts[f]? = some none) (ha : H a = none) (hc : H c = none) (k5 : Kp [s.p, s.gd, s.fd, s.sd, s.hd] H H5) (ho5 : HoAt (CH K) H5 (s.made f k a c w)) (hc2 : H5 c2 = none) (k6 : Kp [x.m, x.mw, x.mc] H5 H6) (lm6 : LmAt H6 (x.made f k t c2 w2))
    (ht : t = max x.top (szs x.here + k)) : HM K H6 (s.made f k a c w) (x.made f k t c2 w2) ∧ Kp (s.foot ++ x.foot) H H6 ∧ Grow H s x (s.made f k a c w) (x.made f k t c2 w2) := by
  have s5 : ∀ a' ∈ [s.p, s.gd, s.fd, s.sd, s.hd], a' ∈ [s.p, s.h, s.t, s.gd, s.fd, s.sd, s.hd] := fun a' ha' => by simp only [List.mem_cons, List.not_mem_nil, or_false] at ha' ⊢; rcases ha' with z | z | z | z | z <;> simp [z]
  have lm5 := y.lmS k5 s5
  have mf := made_foot (k := k) (a := a) (c := c) (w := w) hup
  have s6 : ∀ a' ∈ [x.m, x.mw, x.mc], a' ∈ x.foot := fun a' ha' => footX x a' (by simp only [List.mem_cons, List.not_mem_nil, or_false] at ha' ⊢; rcases ha' with z | z | z <;> simp [z])
  have ax : a ∉ x.foot := fun z => by obtain ⟨o, e, _⟩ := y.lm.std a z; rw [ha] at e; cases e
  have cx : c ∉ x.foot := fun z => by obtain ⟨o, e, _⟩ := y.lm.std c z; rw [hc] at e; cases e
  have ho6 := ho5.kp k6 (fun a' ha' z => by
    rcases mf a' z with e | e | e
    · exact y.dj a' e (s6 a' ha')
    · exact ax (e ▸ s6 a' ha')
    · exact cx (e ▸ s6 a' ha')) (not_tup lm5.std s6)
  refine ⟨y.made hup ho6 lm6 ax cx (fun b' hb' z => by obtain ⟨o, e, _⟩ := ho5.std b' hb'; rw [z, hc2] at e; cases e) ht, (k5.mono fun a' ha' => List.mem_append_left _ (footS s a' (s5 a' ha'))).trans (k6.mono fun a' ha' => List.mem_append_right _ (s6 a' ha')), rfl, rfl, fun a' ha' => ?_, by show (s.rs ++ [_]).length ≤ _; rw [List.length_append]; exact Nat.le_refl _, rfl⟩
  rcases ha' with z | z
  · rcases mf a' z with e | e | e
    · exact .inl e
    · exact .inr (.inr (e ▸ ha))
    · exact .inr (.inr (e ▸ hc))
  · rcases made_lfoot a' z with e | e
    · exact .inr (.inl e)
    · refine .inr (.inr ?_)
      rw [e]
      cases e7' : H c2 with
      | none => rfl
      | some o =>
        by_cases hin : c2 ∈ [s.p, s.gd, s.fd, s.sd, s.hd]
        · obtain ⟨o2, e2, _⟩ := ho5.std c2 (footS (s.made f k a c w) c2 (s5 c2 hin))
          rw [hc2] at e2; cases e2
        · rw [k5 c2 o e7' hin] at hc2; cases hc2
end

end Lw
namespace Lw
open PySem PySem.Spec L2 FG
open PyProof.Rows hiding St
/-! ### both put the same -/
theorem HM.put2 {K : PySem.W.Frag} {H H5 H6 : Hp} {s : HSt} {x : LSt} {r p : Rm} {k : Nat} {v : V} (y : HM K H s x) (hr : r ∈ x.ls) (hp : p ∈ s.here) (e1 : p.f = r.f) (e2 : p.o = r.o) (hv : ValM x.ls v) (k5 : Kp [p.c] H H5) (ho5 : HoAt (CH K) H5 (s.setc r.f r.o k v)) (k6 : Kp [r.c] H5 H6) (e6 : H6 r.c = some (.lst (r.cells.set k v))) :
    HM K H6 (s.setc r.f r.o k v) (x.setc r.f r.o k v) ∧ Kp (s.foot ++ x.foot) H H6 ∧ Grow H s x (s.setc r.f r.o k v) (x.setc r.f r.o k v) := by
  have crx : r.c ∈ x.foot := List.mem_append_right _ (List.mem_map.mpr ⟨r, hr, rfl⟩)
  have cps : p.c ∈ s.foot := List.mem_append_right _ (List.mem_map.mpr ⟨p, hp, rfl⟩)
  have lm5 : LmAt H5 x := y.lm.kp k5 (fun a ha z => by rw [List.mem_singleton] at ha; rw [ha] at z; exact y.dj _ cps z) (not_tup y.ho.std fun a ha => by rw [List.mem_singleton] at ha; rw [ha]; exact cps)
  have lm6 := lm5.setc hr k6 e6
  have ho6 := ho5.kp k6 (fun a ha z => by rw [List.mem_singleton] at ha; rw [ha, set_foot] at z; exact y.dj _ z crx) (not_tup lm5.std fun a ha => by rw [List.mem_singleton] at ha; rw [ha]; exact crx)
  refine ⟨y.setc hv ho6 lm6, (k5.mono fun a ha => ?_).trans (k6.mono fun a ha => ?_), rfl, rfl, fun a ha => ?_, by show (s.rs.map _).length ≤ _; rw [List.length_map]; omega, rfl⟩
  · rw [List.mem_singleton] at ha; rw [ha]; exact List.mem_append_left _ cps
  · rw [List.mem_singleton] at ha; rw [ha]; exact List.mem_append_right _ crx
  · rw [set_foot, set_lfoot] at ha
    rcases ha with z | z
    · exact .inl z
    · exact .inr (.inl z)
theorem vok_no {H H' : Hp} {rs : List Rm} {v : V} (vk : VOk H rs v) (k : Kp [] H H') {q : Addr} (e : v = .ref q) {a b : Nat} (h : H' q = some (.tup [.int (a : Int), .int (b : Int)])) (no : ∀ r ∈ rs, ¬ (r.f = a ∧ r.o = b)) : False := by
  rcases vk with e0 | ⟨z, e0⟩ | ⟨r2, hr2, q2, e0, eq2⟩
  · rw [e0] at e; cases e
  · rw [e0] at e; cases e
  · rw [e0] at e
    injection e with e
    rw [e] at eq2
    rw [k _ _ eq2 (by simp)] at h
    injection h with h
    injection h with h
    injection h with h81 h82
    injection h82 with h82 _
    injection h81 with h81
    injection h82 with h82
    exact no r2 hr2 ⟨by omega, by omega⟩

end Lw
namespace Lw
open PySem PySem.Spec L2 FG
open PyProof.Rows hiding St
/-! ### two ways that meet; what is kept where all that changes is new -/
theorem Kp.out {S : List Addr} {H H1 H2 : Hp} (k : Kp [] H H1) (k2 : Kp S H1 H2) (n : ∀ s ∈ S, H s = none) : Kp [] H H2 := fun b o e _ => k2 b o (k b o e (by simp)) fun hb => by rw [n b hb] at e; cases e
theorem Kp.fr {H H1 : Hp} (k : Kp [] H H1) {a : Addr} (n : H1 a = none) : H a = none := by
  cases e : H a with
  | none => rfl
  | some o => rw [k a o e (by simp)] at n; cases n
theorem fork {b : Bool} {A : Prop} {H : Hp} {Q : Hp → Prop} (R : Hp → Prop) (r0 : R H) (hA : (∀ H', R H' → Q H') → A) (h : ∀ H', R H' → Q H') : if b = true then A else Q H := by
  cases b
  · exact iteF (h H r0)
  · exact iteT (hA h)
theorem Kp.fr1 {H H1 : Hp} {b a : Addr} {n : Int} (k : Kp [b] H H1) (bx : BoxAt H1 b n) (e : H1 a = none) : H a = none := by
  cases e1 : H a with
  | none => rfl
  | some o =>
    rw [k a o e1 (by simpa using bx.ne e)] at e; cases e

end Lw
namespace Lw
open PySem PySem.Spec L2 FG
open PyProof.Rows hiding St
/-! ### the hashes of pairs of small numbers lie apart -/
def p1 : Nat := 11400714785074694791
def p2 : Nat := 14029467366897019727
def p5 : Nat := 2870177450012600261
theorem p1_eq : p1 = 11400714785074694791 := rfl
theorem p2_eq : p2 = 14029467366897019727 := rfl
theorem p5_eq : p5 = 2870177450012600261 := rfl
def m64 : Nat := 18446744073709551616
def hg (acc h : Nat) : Nat := ((((acc + h * p2) % m64) * 2147483648 % m64 + (acc + h * p2) % m64 / 8589934592) * p1) % m64
def p1i : Nat := 614540362697595703
def p2i : Nat := 839798700976720815
theorem p1_inv : (p1 * p1i) % m64 = 1 := by decide +kernel
theorem p2_inv : (p2 * p2i) % m64 = 1 := by decide +kernel
theorem cancel {x y p q : Nat} (e : (p * q) % m64 = 1) (h : (x * p) % m64 = (y * p) % m64) : x % m64 = y % m64 := by
  have z : ∀ x : Nat, x % m64 = (x * p % m64 * q) % m64 := fun x => by
    rw [Nat.mod_mul_mod, Nat.mul_assoc, Nat.mul_mod, e, Nat.mul_one, Nat.mod_mod]
  rw [z x, z y, h]
theorem rot_lt {a : Nat} (h : a < m64) : a * 2147483648 % m64 + a / 8589934592 < m64 := by unfold m64 at *; omega
theorem rotv {q r : Nat} (hr : r < 8589934592) : (8589934592 * q + r) * 2147483648 % m64 = r * 2147483648 := by
  have e : (8589934592 * q + r) * 2147483648 = r * 2147483648 + m64 * q := by unfold m64; omega
  rw [e, Nat.add_mul_mod_self_left]
  exact Nat.mod_eq_of_lt (by unfold m64; omega)
theorem rot_inj {a b : Nat} (ha : a < m64) (hb : b < m64) (h : a * 2147483648 % m64 + a / 8589934592 = b * 2147483648 % m64 + b / 8589934592) : a = b := by
  obtain ⟨q, r, rfl, hr⟩ : ∃ q r, a = 8589934592 * q + r ∧ r < 8589934592 := ⟨a / 8589934592, a % 8589934592, by omega, by omega⟩
  obtain ⟨p, t, rfl, ht⟩ : ∃ q r, b = 8589934592 * q + r ∧ r < 8589934592 := ⟨b / 8589934592, b % 8589934592, by omega, by omega⟩
  rw [rotv hr, rotv ht] at h
  have e1 : (8589934592 * q + r) / 8589934592 = q := by omega
  have e2 : (8589934592 * p + t) / 8589934592 = p := by omega
  rw [e1, e2] at h
  unfold m64 at *
  omega
theorem hg_inj {a a' x x' : Nat} (h : hg a x = hg a' x') : (a + x * p2) % m64 = (a' + x' * p2) % m64 := by
  have l1 : (a + x * p2) % m64 < m64 := Nat.mod_lt _ (by decide)
  have l2 : (a' + x' * p2) % m64 < m64 := Nat.mod_lt _ (by decide)
  have z := cancel p1_inv h
  rw [Nat.mod_eq_of_lt (rot_lt l1), Nat.mod_eq_of_lt (rot_lt l2)] at z
  exact rot_inj l1 l2 z
def hB (f : Nat) : Nat := (hg p5 f * p2i) % m64
theorem hB_lt (f : Nat) : hB f < m64 := Nat.mod_lt _ (by decide)
theorem to_hB {f x : Nat} : ((hg p5 f + x * p2) % m64 * p2i) % m64 = (hB f + x) % m64 := by
  unfold hB
  rw [Nat.mod_mul_mod, Nat.add_mul, Nat.mul_assoc, Nat.add_mod, Nat.mul_mod x, p2_inv, Nat.mul_one, Nat.mod_mod, ← Nat.add_mod]
  rw [Nat.mod_add_mod]
def ordF : List Nat := [102, 64, 13, 26, 92, 54, 16, 95, 57, 19, 9, 98, 60, 22, 88, 101, 50, 12, 91, 53, 15, 94, 56, 18, 84, 97, 46, 125, 8, 87, 49, 11, 90, 52, 14, 42, 4, 93, 55, 121, 83, 45, 7, 124, 86, 48, 127, 10, 89, 38, 0, 51, 117, 79, 41, 120, 3, 82, 44, 123, 6, 85, 34, 47, 113, 75, 37, 126, 116, 78, 40, 2, 119, 81, 43, 109, 5, 71, 33, 122, 112, 74, 36, 115, 77, 39, 105, 118, 1, 67, 80, 29, 108, 70, 32, 111, 73, 35, 63, 25, 114, 76, 104, 66, 28, 107, 69, 31, 59, 21, 110, 72, 100, 62, 24, 103, 65, 27, 106, 68, 17, 30, 96, 58, 20, 99, 61, 23]
def apartL : List Nat → Bool
  | a :: b :: r => decide (hB a + 4096 ≤ hB b) && apartL (b :: r)
  | _ => true
theorem apart_pw : ∀ l : List Nat, apartL l = true → l.Pairwise fun a b => hB a + 4096 ≤ hB b
  | [], _ => .nil
  | [a], _ => List.pairwise_singleton _ _
  | a :: b :: r, h => by
    unfold apartL at h
    rw [Bool.and_eq_true, decide_eq_true_eq] at h
    have p := apart_pw (b :: r) h.2
    refine List.pairwise_cons.mpr ⟨fun c hc => ?_, p⟩
    rcases List.mem_cons.mp hc with z | z
    · rw [z]; exact h.1
    · have := (List.pairwise_cons.mp p).1 c z
      omega
theorem ord_ok : apartL ordF = true := by decide +kernel
theorem ord_all : ((List.range 128).all fun f => ordF.contains f && (decide (340373830746486134 ≤ hB f) && decide (hB f ≤ 18366545542651351942))) = true := by decide +kernel
theorem pwise_or {R : Nat → Nat → Prop} : ∀ {l : List Nat}, l.Pairwise R → ∀ f ∈ l, ∀ g ∈ l, f ≠ g → R f g ∨ R g f
  | [], _, f, hf, _, _, _ => by cases hf
  | a :: l, p, f, hf, g, hg, n => by
    obtain ⟨h1, h2⟩ := List.pairwise_cons.mp p
    rcases List.mem_cons.mp hf with e1 | e1
    · rcases List.mem_cons.mp hg with e2 | e2
      · exact absurd (e1.trans e2.symm) n
      · rw [e1]; exact .inl (h1 g e2)
    · rcases List.mem_cons.mp hg with e2 | e2
      · rw [e2]; exact .inr (h1 f e1)
      · exact pwise_or h2 f e1 g e2 n
theorem hB_in {f : Nat} (hf : f < 128) : f ∈ ordF ∧ 340373830746486134 ≤ hB f ∧ hB f ≤ 18366545542651351942 := by
  have z := List.all_eq_true.mp ord_all f (List.mem_range.mpr hf)
  rw [Bool.and_eq_true, Bool.and_eq_true, decide_eq_true_eq, decide_eq_true_eq] at z
  exact ⟨by simpa using z.1, z.2⟩
theorem hB_apart {f g : Nat} (hf : f < 128) (hg : g < 128) (h : f ≠ g) : hB f + 4096 ≤ hB g ∨ hB g + 4096 ≤ hB f := pwise_or (apart_pw _ ord_ok) f (hB_in hf).1 g (hB_in hg).1 h
theorem pair_inj {f g x y : Nat} (hf : f < 128) (hg' : g < 128) (hx : x < 4096) (hy : y < 4096) (h : hg (hg p5 f) x = hg (hg p5 g) y) : f = g ∧ x = y := by
  have e := hg_inj h
  have e2 : (hB f + x) % m64 = (hB g + y) % m64 := by rw [← to_hB, ← to_hB, e]
  have l1 := hB_lt f
  have l2 := hB_lt g
  by_cases c : f = g
  · subst c
    refine ⟨rfl, ?_⟩
    unfold m64 at *; omega
  · have a1 := hB_apart hf hg' c
    have a2 := (hB_in hf).2
    have a3 := (hB_in hg').2
    unfold m64 at *; omega
def hFin (acc : Nat) : Int :=
  let a := (acc + 2870177450013471924) % m64
  if a == m64 - 1 then 1546275796 else if a < 9223372036854775808 then a else (a : Int) - m64
def stepR (acc : Nat) (h : Int) : Nat :=
  ((((acc + (h % ((2 ^ 64 : Nat) : Int)).toNat * 14029467366897019727) % 2 ^ 64) * 2 ^ 31) % 2 ^ 64 + ((acc + (h % ((2 ^ 64 : Nat) : Int)).toNat * 14029467366897019727) % 2 ^ 64) / 2 ^ 33) * 11400714785074694791 % 2 ^ 64
def finR (n acc : Nat) : Int :=
  if (acc + (n ^^^ (2870177450012600261 ^^^ 3527539))) % 2 ^ 64 == 2 ^ 64 - 1 then 1546275796 else if (acc + (n ^^^ (2870177450012600261 ^^^ 3527539))) % 2 ^ 64 < 2 ^ 63 then (((acc + (n ^^^ (2870177450012600261 ^^^ 3527539))) % 2 ^ 64 : Nat) : Int) else (((acc + (n ^^^ (2870177450012600261 ^^^ 3527539))) % 2 ^ 64 : Nat) : Int) - ((2 ^ 64 : Nat) : Int)
theorem hash_raw (hs : List Int) : Builtin.Tuple.tupleHashOf hs = finR hs.length (List.foldl stepR 2870177450012600261 hs) := rfl
theorem fold2 (a b : Int) : List.foldl stepR 2870177450012600261 [a, b] = stepR (stepR 2870177450012600261 a) b := by
  rw [List.foldl_cons, List.foldl_cons, List.foldl_nil]
theorem len2 (a b : Int) : ([a, b] : List Int).length = 2 := rfl
theorem e64 : (2 : Nat) ^ 64 = m64 := by decide
theorem e63 : (2 : Nat) ^ 63 = 9223372036854775808 := by decide
theorem e31 : (2 : Nat) ^ 31 = 2147483648 := by decide
theorem e33 : (2 : Nat) ^ 33 = 8589934592 := by decide
theorem stepR_eq {acc n : Nat} (h : n < m64) : stepR acc (n : Int) = hg acc n := by
  have z : ((n : Int) % ((m64 : Nat) : Int)).toNat = n := by unfold m64 at *; omega
  unfold stepR hg
  rw [e64, e31, e33, z, ← p1_eq, ← p2_eq]
theorem finR_eq (acc : Nat) : finR 2 acc = hFin acc := by
  have z : (2 ^^^ (2870177450012600261 ^^^ 3527539) : Nat) = 2870177450013471924 := by decide
  unfold finR hFin
  rw [z, e64, e63]
theorem hash_eq (f x : Nat) (hf : f < m64) (hx : x < m64) : Builtin.Tuple.tupleHashOf [(f : Int), (x : Int)] = hFin (hg (hg p5 f) x) := by
  rw [hash_raw, fold2, len2, finR_eq, stepR_eq hf, stepR_eq hx, ← p5_eq]
def lastAcc : Nat := 15576566623696079691
theorem last_D : ∀ f, f < 128 → 4096 ≤ (15746002411462551884 + m64 - hB f) % m64 := fun f hf => by
  have z : ((List.range 128).all fun f => decide (4096 ≤ (15746002411462551884 + m64 - hB f) % m64)) = true := by decide +kernel
  exact of_decide_eq_true (List.all_eq_true.mp z f (List.mem_range.mpr hf))
theorem not_last {f x : Nat} (hf : f < 128) (hx : x < 4096) : hg (hg p5 f) x ≠ lastAcc := fun h => by
  have e0 : lastAcc = hg 9148689060682678900 0 := by decide +kernel
  have e := hg_inj (h.trans e0)
  have e2 : (hB f + x) % m64 = (9148689060682678900 % m64 * p2i) % m64 := by rw [← to_hB, e]; rfl
  have e3 : (9148689060682678900 % m64 * p2i) % m64 = 15746002411462551884 := by decide +kernel
  rw [e3] at e2
  have a := last_D f hf
  have l1 := hB_lt f
  unfold m64 at *; omega
theorem hg_lt (a x : Nat) : hg a x < m64 := Nat.mod_lt _ (by decide)
theorem fin_inj {a b : Nat} (ha : a < m64) (hb : b < m64) (na : a ≠ lastAcc) (nb : b ≠ lastAcc) (h : reduceHash (hFin a) = reduceHash (hFin b)) : a = b := by
  have lt : ∀ {a : Nat}, a < m64 → a ≠ lastAcc → ∃ r : Nat, r = (a + 2870177450013471924) % m64 ∧ r < m64 - 1 ∧ reduceHash (hFin a) = (if r < 9223372036854775808 then (r : Int) else (r : Int) - m64) := fun {a} ha na => by
    refine ⟨_, rfl, by unfold m64 lastAcc at *; omega, ?_⟩
    have n1 : ((a + 2870177450013471924) % m64 == m64 - 1) = false := by
      rw [beq_eq_false_iff_ne]; unfold m64 lastAcc at *; omega
    unfold hFin
    simp only [n1, Bool.false_eq_true, if_false]
    have l : (a + 2870177450013471924) % m64 < m64 - 1 := by unfold m64 lastAcc at *; omega
    generalize (a + 2870177450013471924) % m64 = r at *
    unfold m64 at *
    unfold reduceHash
    by_cases c : r < 9223372036854775808
    · rw [if_pos c]
      have e1 : (decide (-(2 ^ 63 : Int) ≤ (r : Int)) && decide ((r : Int) < 2 ^ 63)) = true := by simp; omega
      have e2 : ((r : Int) == -1) = false := by rw [beq_eq_false_iff_ne]; omega
      rw [e1, e2]; simp
    · rw [if_neg c]
      have e1 : (decide (-(2 ^ 63 : Int) ≤ (r : Int) - ((18446744073709551616 : Nat) : Int)) && decide ((r : Int) - ((18446744073709551616 : Nat) : Int) < 2 ^ 63)) = true := by simp; omega
      have e2 : ((r : Int) - ((18446744073709551616 : Nat) : Int) == -1) = false := by rw [beq_eq_false_iff_ne]; omega
      rw [e1, e2]; simp
  obtain ⟨r, er, lr, e1⟩ := lt ha na
  obtain ⟨q, eq, lq, e2⟩ := lt hb nb
  rw [e1, e2] at h
  unfold m64 at *
  split at h <;> split at h <;> omega
theorem hashInt_nat {n : Nat} (h : n < 10000) : hashInt (n : Int) = (n : Int) := by
  have e : rawHash (n : Int) = (n : Int) := by unfold rawHash; simp; omega
  unfold hashInt
  rw [e, if_neg (by simp)]
/-- two keys of small numbers with one hash are one -/
theorem smk_inj {P : Program} {w : World} {f g x y : Nat} (hf : f < 128) (hg' : g < 128) (hx : x < 4096) (hy : y < 4096) (h : tupleKeyHash (mixKind P w) [.inl (f : Int), .inl (x : Int)] = tupleKeyHash (mixKind P w) [.inl (g : Int), .inl (y : Int)]) : f = g ∧ x = y := by
  have z : ∀ f x : Nat, f < 128 → x < 4096 → tupleKeyHash (mixKind P w) [.inl (f : Int), .inl (x : Int)] = reduceHash (hFin (hg (hg p5 f) x)) := fun f x hf hx => by
    show reduceHash (Builtin.Tuple.tupleHashOf [hashInt (f : Int), hashInt (x : Int)]) = _
    rw [hashInt_nat (by omega), hashInt_nat (by omega), hash_eq f x (by unfold m64; omega) (by unfold m64; omega)]
  rw [z f x hf hx, z g y hg' hy] at h
  exact pair_inj hf hg' hx hy (fin_inj (hg_lt _ _) (hg_lt _ _) (not_last hf hx) (not_last hg' hy) h)

end Lw
namespace Lw
open PySem PySem.Spec L2 FG
open PyProof.Rows hiding St
/-! ### dict(d), d.items(), dict(list of pairs): the keys are tuples -/
/-- small pairs of numbers -/
def SmK (k : List L2.Key) : Prop := ∃ f x : Nat, k = [.inl (f : Int), .inl (x : Int)] ∧ f < 128 ∧ x < 4096
theorem hash_nodup {P : Program} {w : World} : ∀ {l : List (List L2.Key)}, (∀ k ∈ l, SmK k) → l.Nodup → (l.map (tupleKind (mixKind P w)).hash).Nodup
  | [], _, _ => List.nodup_nil
  | k :: l, hs, hn => by
    obtain ⟨h1, h2⟩ := List.nodup_cons.mp hn
    rw [List.map_cons]
    refine List.nodup_cons.mpr ⟨fun z => ?_, hash_nodup (fun x hx => hs x (by simp [hx])) h2⟩
    obtain ⟨k', hk', e⟩ := List.mem_map.mp z
    obtain ⟨f, x, rfl, hf, hx⟩ := hs k (by simp)
    obtain ⟨g, y, rfl, hg', hy⟩ := hs k' (by simp [hk'])
    obtain ⟨rfl, rfl⟩ := smk_inj (P := P) (w := w) hg' hf hy hx e
    exact h1 hk'
section
variable {prog : Program} {w : World} {K : Type} [DecidableEq K] {knd : HeapKind prog w K} {A : Around} {E : Value → Shared → Prop} {s : Shared}
theorem kt_call_dictH {o : Addr} {more : List (K × Addr × Value)} {Q : Value → Shared → Prop} (hu : knd.room A.in1.in1) (hoS : (o == sysModules) = false) (ho : s.heap.DictOfH knd o more) (hT : ∀ x ∈ more, s.TypeIs (.ref x.2.1) "tuple") (hh : (more.map fun x => knd.hash x.1).Nodup)
    (hn : (more.map (·.1)).Nodup) (hsz : more.length ≤ sizeLine) (hkeep : ∀ (h' : Heap), (∀ b o, s.heap.get? b = some o → h'.get? b = some o) → h'.DictOfH knd o more)
    (h : ∀ h', h'.DictOfH knd s.heap.objs.size more → Heap.SameBut s.heap.objs.size (s.heap.push { cls := .type "dict", data := .dict #[] }) h' → Q (.ref s.heap.objs.size) { s with heap := h' }) :
    wpAny (model prog w) A (call (.type "dict") [.ref o]) Q E s := by
  refine callType_codes (Q₁ := fun obj s₁ => obj = .ref s.heap.objs.size ∧ s₁ = { s with heap := s.heap.push { cls := .type "dict", data := .dict #[] } }) F.kt_called_dict (F.kt_typeCall_dict_1 _) F.entry_dict_init (kt_code_dict_new _ ⟨rfl, rfl⟩) ?_
  rintro obj s₁ ⟨rfl, rfl⟩
  have hnew : (s.heap.push { cls := .type "dict", data := .dict #[] }).DictOfH knd s.heap.objs.size [] := ⟨_, #[], 0, Heap.get?_push_size _ rfl, ⟨rfl, rfl, rfl⟩, rfl, rfl, (fun x hx => by cases hx), List.nodup_nil⟩
  have ho' : (s.heap.push { cls := .type "dict", data := .dict #[] }).DictOfH knd o more := hkeep _ fun b ob e => Heap.get?_push_of_some _ e
  have hdo : s.heap.objs.size ≠ o := by
    obtain ⟨_, _, _, hg, _⟩ := ho
    exact fun e => absurd (Heap.lt_size hg) (by rw [e]; exact Nat.lt_irrefl _)
  have hT0 : ({ s with heap := s.heap.push { cls := .type "dict", data := .dict #[] } } : Shared).TypeIs (.ref s.heap.objs.size) "dict" := ⟨_, Heap.get?_push_size _ rfl, rfl⟩
  refine ⟨hT0, F.args_dict_init_2 _ _, ?_⟩
  unfold Builtin.«dict.__init__»
  refine wpAny_bind ?_
  unfold Builtin.Dict.selfAndRest
  refine wpAny_bind (wpAny_notOrdered_dict hT0 ?_)
  show wpAny _ _ (pure (s.heap.objs.size, [Value.ref o])) _ _ _
  refine wpAny_pure ?_
  show wpAny _ _ (Builtin.Dict.updateFrom "dict.__init__" s.heap.objs.size (.ref o) [] .none) _ _ _
  refine wpAny_mono (updateFrom_dictH (R := wants (fun r s₂ => r = .none ∧ Q (.ref s.heap.objs.size) s₂) E) .none hu hdo hoS hnew ho' (.inr ⟨fun x hx => ?_, hh⟩) (by simpa using hsz) fun h' hd' _ hs' => ?_) (fun fin s' z => ?_) (fun e s' z => z)
  · obtain ⟨ob, e1, e2⟩ := hT x hx
    exact ⟨ob, Heap.get?_push_of_some _ e1, e2⟩
  · rw [storedAllH_nil_of_nodup more hn] at hd'
    exact ⟨rfl, h h' hd' hs'⟩
  · exact z
end
section
variable {X : Cx}
/-- dict(d): a copy -/
theorem call_dictT (hu : X.A.units + 64 < cLine) : CallR X (.type "dict") (fun xs H Q => ∃ (a : Addr) (kvs : List (List L2.Key × V)), xs = [.ref a] ∧ H a = some (.dT kvs) ∧ (∀ k ∈ kvs.map (·.1), SmK k) ∧ ∀ p, H p = none → Q (.ref p) (upd H p (.dT kvs))) := by
  intro pins s σ H xs us Q I r q
  obtain ⟨a, kvs, rfl, hd, hsm, q⟩ := q
  rw [Vals.ref1 r]
  obtain ⟨z, hs, xs', rel, o, es, ep, h1, h2, h3, h4, h5⟩ := (show ObjOk X.prog X.w H s.heap a (.dT kvs) from I.hok a _ hd)
  have tup : ∀ x ∈ xs', s.TypeIs (.ref x.2.1) "tuple" := fun x hx => by
    have all : ∀ {l : List (List L2.Key × V)} {m : List (List L2.Key × Addr × Value)}, Paired (fun (p : List L2.Key × V) (q : List L2.Key × Addr × Value) => p.1 = q.1 ∧ H q.2.1 = some (.tup (p.1.map kV)) ∧ RelV p.2 q.2.2) l m → ∀ x ∈ m, s.TypeIs (.ref x.2.1) "tuple" := by
      intro l m q
      induction q with
      | nil => intro x hx; exact nomatch hx
      | @cons p q ps qs hq t ih =>
        intro x hx
        rcases List.mem_cons.mp hx with e | hx
        · subst e
          obtain ⟨_, its, _, ot, e1, e2, _⟩ := (show ObjOk X.prog X.w H s.heap x.2.1 (.tup (p.1.map kV)) from I.hok _ _ hq.2.1)
          exact ⟨ot, e1, e2⟩
        · exact ih x hx
    exact all rel x hx
  have ek : xs'.map (·.1) = kvs.map (·.1) := by
    have all : ∀ {l : List (List L2.Key × V)} {m : List (List L2.Key × Addr × Value)}, Paired (fun (p : List L2.Key × V) (q : List L2.Key × Addr × Value) => p.1 = q.1 ∧ H q.2.1 = some (.tup (p.1.map kV)) ∧ RelV p.2 q.2.2) l m → m.map (·.1) = l.map (·.1) := by
      intro l m q
      induction q with
      | nil => rfl
      | @cons p q ps qs hq t ih => rw [List.map_cons, List.map_cons, ih, hq.1]
    exact all rel
  obtain ⟨_, _, xs2, rel2, dd2⟩ := dt_of I.hok hd
  have hh : (xs'.map fun x => (tupleKind (mixKind X.prog X.w)).hash x.1).Nodup := by
    have e : (xs'.map fun x => (tupleKind (mixKind X.prog X.w)).hash x.1) = (xs'.map (·.1)).map (tupleKind (mixKind X.prog X.w)).hash := by rw [List.map_map]; rfl
    rw [e]
    exact hash_nodup (fun k hk => hsm k (by rw [← ek]; exact hk)) h5
  have his : ∀ (h' : Heap), (∀ b o, s.heap.get? b = some o → h'.get? b = some o) → ∀ x ∈ xs', (tupleKind (mixKind X.prog X.w)).is h' x.1 x.2.1 := fun h' hk x hx => by
    have all : ∀ {l : List (List L2.Key × V)} {m : List (List L2.Key × Addr × Value)}, Paired (fun (p : List L2.Key × V) (q : List L2.Key × Addr × Value) => p.1 = q.1 ∧ H q.2.1 = some (.tup (p.1.map kV)) ∧ RelV p.2 q.2.2) l m → ∀ x ∈ m, (tupleKind (mixKind X.prog X.w)).is h' x.1 x.2.1 := by
      intro l m q
      induction q with
      | nil => intro x hx; exact nomatch hx
      | @cons p q ps qs hq t ih =>
        intro x hx
        rcases List.mem_cons.mp hx with e | hx
        · subst e
          have z := key_of (ks := x.1) I.hok (by rw [← hq.1]; exact hq.2.1)
          obtain ⟨ot, its, n, e1, e2, e3, e4⟩ := z
          exact ⟨ot, its, n, hk _ _ e1, e2, e3, e4⟩
        · exact ih x hx
    exact all rel x hx
  have dof : ∀ (h' : Heap), (∀ b o, s.heap.get? b = some o → h'.get? b = some o) → h'.DictOfH (tupleKind (mixKind X.prog X.w)) a xs' := fun h' hk => ⟨o, es, ep, hk _ _ h1, h2, h3, h4, his h' hk, h5⟩
  have hl : xs'.length ≤ sizeLine := by rw [← Paired.length rel]; exact z
  refine kt_call_dictH (knd := tupleKind (mixKind X.prog X.w)) (tupleKind_room_in1 (A := X.A.in1) (by rw [units_in1]; omega)) hs (dof _ fun _ _ e => e) tup hh h5 hl dof fun h' d' hs' => ?_
  have hm : (s.heap.objs.size == sysModules) = false := beq_eq_false_iff_ne.mpr (Nat.ne_of_gt I.big)
  have keep : ∀ b u, s.heap.get? b = some u → h'.get? b = some u := fun b u e => (hs'.2 b (Nat.ne_of_lt (Heap.lt_size e))).trans (Heap.get?_push_of_some _ e)
  obtain ⟨o', es', ep', g1, g2, g3, g4, _, g6⟩ := d'
  have fr : H s.heap.objs.size = none := I.hok.fresh (Nat.le_refl _)
  exact ⟨.ref s.heap.objs.size, upd H s.heap.objs.size (.dT kvs), I.laid (t' := s.toks) keep (Nat.le_refl _)
    (show ObjOk X.prog X.w _ _ _ (.dT kvs) from ⟨z, hm, xs', Paired.mapP rel (fun p q y => ⟨y.1, (upd_ne (ne_of_none y.2.1 fr)).trans y.2.1, y.2.2⟩), o', es', ep', g1, g2, g3, g4, g6⟩), rfl, q _ fr⟩
end

end Lw
namespace Lw
open PySem PySem.Spec L2 FG
open PyProof.Rows hiding St
/-! ### for k, v in d.items(), d locked, its keys tuples: each pair a new tuple of the key's own tuple and the value -/
def Itit (d : Addr) (o : Obj) (kvs : List (List L2.Key × V)) : It :=
  ⟨fun i H => H d = some (.frz o (.dT kvs)) ∧ i < kvs.length, fun i H x H' => ∃ T k v q, kvs[i]? = some (k, v) ∧ x = .ref T ∧ H q = some (.tup (k.map kV)) ∧ H T = none ∧ H' = upd H T (.tup [.ref q, v]), fun i H => H d = some (.frz o (.dT kvs)) ∧ kvs.length ≤ i⟩
def iItemsT (td : TE) : TI := fun σ H R => td σ H fun x H1 => ∃ d o kvs, x = .ref d ∧ H1 d = some (.frz o (.dT kvs)) ∧ R (Itit d o kvs) H1
section
variable {X : Cx} {pins : List (Addr × Obj)} {σ : St} {H : Hp} {s : Shared} {d : Addr} {o : Obj}
theorem frzTi {kvs : List (List L2.Key × V)} (I : Inv X pins σ H s) (h : H d = some (.frz o (.dT kvs))) :
    (d == sysModules) = false ∧ s.heap.get? d = some o ∧ o.ExactDict ∧ ∃ (es : Array DictEntry) (ep : Nat), o.data = .dict es ep ∧ es.size = kvs.length ∧
      ∀ (i : Nat) (k : List L2.Key) (v : V), kvs[i]? = some (k, v) → ∃ (en : DictEntry) (q : Addr), es[i]? = some en ∧ en.key = .ref q ∧ H q = some (.tup (k.map kV)) ∧ RelV v en.val := by
  obtain ⟨hd, z, hs, xs, pr, o', es, ep, ho, hx, hdt, he, _⟩ := I.hok d _ h
  rw [hd] at ho
  cases ho
  refine ⟨hs, hd, hx, es, ep, hdt, ?_, fun i k v e => ?_⟩
  · have l1 : es.size = xs.length := size_of_entries he
    have l2 : kvs.length = xs.length := Paired.length pr
    omega
  · obtain ⟨b, hb, e1, e2, e3⟩ := paired_get pr e
    have q := entry_at he i
    rw [hb] at q
    exact ⟨_, b.2.1, q, rfl, e2, e3⟩
theorem turn_itemsT {P : Program} {w : World} {K : PySem.W.Frag} {elts : List Expr} {kk : Nat} {tpos : Pos} {es : Array DictEntry} {ep : Nat} {kvs : List (List L2.Key × V)} (it : Addr) (hod : o.data = .dict es ep) :
    Turn P w K (.Tuple elts kk tpos) (Itit d o kvs) [it] it (fun i h => ∃ ok ov, h.get? it = some (DVw.itmOb d .none i kvs.length ep ok ov)) where
  mem := by simp
  obj := fun i h st b hb => by
    have e : b = it := by simpa using hb
    subst e
    obtain ⟨ok, ov, e⟩ := st
    exact ⟨_, e, fun v z => nomatch z⟩
  keep := fun i h h' st k => let ⟨ok, ov, e⟩ := st; ⟨ok, ov, k it (by simp) _ e⟩
  item := by
    intro X hP hw hK hc i pins s σ H E I hf st hg
    subst hP hw hK
    obtain ⟨hd, hi⟩ := hg
    obtain ⟨hs, hgd, hx, es', ep', hdt, hsz, ent⟩ := frzTi I hd
    obtain ⟨rfl, rfl⟩ := ep_eq hod hdt
    obtain ⟨⟨k, v⟩, hkv⟩ : ∃ p, kvs[i]? = some p := ⟨kvs[i], List.getElem?_eq_getElem hi⟩
    obtain ⟨en, q, hen, ekey, hq, rv⟩ := ent i k v hkv
    obtain ⟨ok, ov, hit⟩ := st
    have hlt : it < s.heap.objs.size := Heap.lt_size hit
    refine DVw.itm_item hit hgd hdt hsz hen fun h' b1 b2 b3 b4 => ?_
    refine ⟨_, rfl, wpAny_letOwnedTupleGo_items (s := { s with heap := h' }) (d := d) (i := i + 1) (n := kvs.length) (ep := ep) (ok := en.key) (ov := en.val) b1 fun h'' he' sb => ?_⟩
    have hT2 : h''.get? s.heap.objs.size = some { cls := .type "tuple", data := .seq #[en.key, en.val] } := (sb.2 _ (Nat.ne_of_gt hlt)).trans b2
    have new : ObjOk X.prog X.w (upd H s.heap.objs.size (.tup [.ref q, v])) h'' s.heap.objs.size (.tup [.ref q, v]) :=
      ⟨by show 2 ≤ sizeLine; decide, [en.key, en.val], .cons (by rw [ekey]; exact rfl) (.cons rv .nil), ⟨_, hT2, rfl, _, rfl⟩⟩
    have I1 : Inv X pins σ (upd H s.heap.objs.size (.tup [.ref q, v])) { s with heap := h'' } :=
      I.turnedNew (t' := s.toks) (ch := [it]) (fun b ob hb z => (sb.2 b (by simpa using hb)).trans (b4 b ob (by simpa using hb) z)) hf (Nat.le_refl _) new
    refine ⟨.ref s.heap.objs.size, _, I1, rfl, ⟨_, k, v, q, hkv, rfl, hq, I.hok.fresh (Nat.le_refl _), rfl⟩, ⟨en.key, en.val, he'⟩, fun b hb => ?_⟩
    have z : b = it := by simpa using hb
    rw [z, upd_ne (Nat.ne_of_lt hlt)]
    exact (hf it (by simp)).1
  done := by
    intro X hP hw hK hc i pins s σ H E I hf st hg
    subst hP hw hK
    obtain ⟨hd, hi⟩ := hg
    obtain ⟨f0, f1, f2, f3, f4, f5⟩ := hf it (by simp)
    obtain ⟨hs, hgd, hx, es', ep', hdt, hsz, ent⟩ := frzTi I hd
    obtain ⟨rfl, rfl⟩ := ep_eq hod hdt
    obtain ⟨ok, ov, hit⟩ := st
    have he : es[i]? = none := Array.getElem?_eq_none (by omega)
    exact DVw.itm_end (I.ok.hd hc) hit hgd hdt hsz he fun h' eb => ⟨rfl, I.turned (t' := s.toks) (fun b ob hb e => eb b ob hb e) f0 f1 f3 f4 f5⟩
  self := fun A i s Q E st h => let ⟨_, _, e⟩ := st; PySem.W.kcp_self e h
theorem meetsItems {prog : Program} {w : World} {d : Addr} {es : Array DictEntry} {ep : Nat} (hd : (d == sysModules) = false) :
    MeetsIn prog w (Builtin.«dict.items» ⟨[.ref d], []⟩) (fun _ R s => DT.Raw s.heap d es ep ∧
      R (.ok (.ret (.ref s.heap.objs.size))) { s with heap := s.heap.push { cls := .type "dict_items", data := .fields #[.ref d] } }) :=
  .of_wp fun A R s ⟨hm, h⟩ => by
    show wpAny _ _ (Builtin.Dict.noArgs "items" ⟨[.ref d], []⟩ >>= _) _ _ s
    refine wpAny_bind ?_
    unfold Builtin.Dict.noArgs
    refine wpAny_bind (wpAny_notOrdered_dict hm.typeIs ?_)
    show wpAny _ _ (pure d) _ _ s
    refine wpAny_pure ?_
    show wpAny _ _ (Builtin.Dict.showsAll d >>= _) _ _ s
    unfold Builtin.Dict.showsAll
    rw [if_neg (by rw [hd]; exact Bool.false_ne_true)]
    refine wpAny_bind (wpAny_pure ?_)
    exact wpAny_bind (wpAny_newObj_type (wpAny_pure ⟨_, rfl, h⟩))
end
theorem pi_itemsT {X : Cx} {elts : List Expr} {kk : Nat} {tpos : Pos} {e : Expr} {td : TE} {apos cpos : Pos} (he : PE X e td) (hbase : attributeBase e "items" X.env (eval e X.env) = eval e X.env := by rfl) (hline : (apos.endLine == cpos.line) = true := by rfl) :
    PI X (.Tuple elts kk tpos) (.Call (.Attribute e "items" apos) [] [] cpos) (iItemsT td) := by
  refine ⟨fun pins s σ H R I h => ?_⟩
  refine wpAny_Call_method (T := "dict") (id := "dict.items") hbase rfl hline F.plainAttrs_dict F.slot_dict_items F.type_dict_items (thn (he.run pins s σ H _ I h) fun u s1 ⟨x, H1, I1, rx, d, o, kvs, ex, hd, q⟩ => ?_)
  subst ex
  obtain rfl : u = Value.ref d := rx
  obtain ⟨hs, hgd, hx, es, ep, hdt, hsz, ent⟩ := frzTi I1 hd
  have hm : DT.Raw s1.heap d es ep := ⟨o, hgd, hx, hdt⟩
  refine ⟨hm.typeIs, (fun b e => by injection e with e; subst e; exact ⟨o, hgd, hx.2.1⟩), ?_⟩
  have I2 : Inv X pins σ H1 { s1 with heap := s1.heap.push { cls := .type "dict_items", data := .fields #[.ref d] } } := I1.kept (t' := s1.toks) fun b ob q => Heap.get?_push_of_some _ q
  have fin : wpAny (model X.prog X.w) X.A (pyIter (.ref s1.heap.objs.size)) (PIE X pins σ (.Tuple elts kk tpos) R) X.xe { s1 with heap := s1.heap.push { cls := .type "dict_items", data := .fields #[.ref d] } } := by
    refine DSub.iter_itms (a := d) (es := es) (ep := ep) (ob := o) (Heap.get?_push_size _ rfl) (Heap.get?_push_of_some _ hgd) hdt ?_
    refine pi_one (tk := s1.toks) I2 _ (turn_itemsT _ hdt) ⟨.none, .none, ?_⟩ q
    rw [hsz]
    exact Heap.get?_push_size _ rfl
  show wpAny _ _ (callWith cpos (.builtin "dict.items") [.ref d] [] []) _ X.xe s1
  exact method_meetsIn F.slot_dict_items F.entry_dict_items rfl (PySem.evalArgs_none ⟨rfl, hm.typeIs, F.args_dict_items_1 _, _, meetsItems (es := es) (ep := ep) hs, hm, fin⟩)
theorem walk_itemsT {d : Addr} {o : Obj} {kvs : List (List L2.Key × V)} : Walk (Itit d o kvs) kvs.length (fun H => H d = some (.frz o (.dT kvs))) (fun i H x H' => ∃ T k v q, kvs[i]? = some (k, v) ∧ x = .ref T ∧ H q = some (.tup (k.map kV)) ∧ H T = none ∧ H' = upd H T (.tup [.ref q, v])) :=
  ⟨fun _ _ hi q => ⟨q, hi⟩, fun _ q => ⟨q, Nat.le_refl _⟩, fun _ _ _ _ _ _ y => y⟩

end Lw
namespace Lw
open PySem PySem.Spec L2 FG
open PyProof.Rows hiding St
/-! ### dict(list of pairs), the keys tuples that are all apart -/
theorem atKey_no {l : List (List L2.Key × Addr × Value)} {k : List L2.Key} (h : k ∉ l.map (·.1)) : atKey l k = none := by
  unfold atKey
  have e : l.find? (fun x => decide (x.1 = k)) = none := List.find?_eq_none.mpr fun x hx z => h (List.mem_map.mpr ⟨x, hx, of_decide_eq_true z⟩)
  rw [e]; rfl
section
variable {prog : Program} {w : World} {A : Around} {E : Value → Shared → Prop}
theorem upd_loopT {R : Result → Shared → Prop} {S I l : Addr} {items : Array Value} {res : Value} (hu : A.units + 8 < cLine) (hh : A.handled = none) (hlI : l ≠ I) (hSI : S ≠ I) (hSl : S ≠ l) :
    ∀ (rest : List (List L2.Key × Addr × Value)) (i : Nat) (acc : List (List L2.Key × Addr × Value)) (ix : Int) (t : Tok) (s : Shared), items.size = i + rest.length → acc.length + rest.length ≤ sizeLine → ((acc ++ rest).map (·.1)).Nodup →
      (∀ (j : Nat) (q : List L2.Key × Addr × Value), rest[j]? = some q → ∃ b : Addr, items[i + j]? = some (.ref b) ∧ b ≠ S ∧ b ≠ I ∧ IsTup s.heap b #[.ref q.2.1, q.2.2]) →
      (∀ q ∈ rest, ∀ h', (∀ b o, b ≠ S → b ≠ I → s.heap.get? b = some o → h'.get? b = some o) → (tupleKind (mixKind prog w)).is h' q.1 q.2.1) →
      s.heap.IsListIter I l i → s.heap.IsList l items → s.heap.DictOfH (tupleKind (mixKind prog w)) S acc → (∀ (h' : Heap), (∀ b o, b ≠ S → b ≠ I → s.heap.get? b = some o → h'.get? b = some o) → ∀ q ∈ acc, (tupleKind (mixKind prog w)).is h' q.1 q.2.1) →
      (∀ h' tk, h'.DictOfH (tupleKind (mixKind prog w)) S (acc ++ rest) → (∀ b o, b ≠ S → b ≠ I → s.heap.get? b = some o → h'.get? b = some o) → R (.ok (.ret res)) { s with heap := h', toks := tk }) →
      codeAny (model prog w) A (.builtin "dict.update.loop" ⟨[.ref S, .ref I, .int ix t, res], []⟩) R s
  | [], i, acc, ix, t, s, hsz, hln, hn, ht, hk, hit, hl, hm, ha, hR => by
    refine codeAny_builtin ud_entry ?_
    rw [Around.under_plainId ud_plain _]
    show wpAny _ A.in1 (pyNext (.ref I) >>= _) _ _ s
    refine wpAny_bind (wpAny_pyNext_list_end (A := A.in1) hh hit hl (by first | exact Array.getElem?_eq_none (Nat.le_of_eq hsz) | (simp at hsz; simp; omega)) fun h' he => ?_)
    show wpAny _ A.in1 (Builtin.Dict.addKeywords S [] >>= _) _ _ _
    refine wpAny_bind (wpAny_pure (wpAny_pure ?_))
    rw [List.append_nil] at hR
    obtain ⟨o, es, ep, g1, g2, g3, g4, _, g6⟩ := hm
    have kp : ∀ b o, b ≠ S → b ≠ I → s.heap.get? b = some o → h'.get? b = some o := fun b o _ hb e => he b o hb e
    exact hR h' s.toks ⟨o, es, ep, he S o hSI g1, g2, g3, g4, ha h' kp, g6⟩ kp
  | q :: rest, i, acc, ix, t, s, hsz, hln, hn, ht, hk, hit, hl, hm, ha, hR => by
    obtain ⟨b, hb, hbS, hbI, htup⟩ := ht 0 q rfl
    rw [List.length_cons] at hsz hln
    refine codeAny_builtin ud_entry ?_
    rw [Around.under_plainId ud_plain _]
    show wpAny _ A.in1 (pyNext (.ref I) >>= _) _ _ s
    refine wpAny_bind (wpAny_pyNext_list_item (x := .ref b) hit hl (by simpa using hb) fun h1 hit1 hs1 => ?_)
    have k1 : ∀ b o, b ≠ S → b ≠ I → s.heap.get? b = some o → h1.get? b = some o := fun b o _ hb e => hs1.extBut b o hb e
    have ht1 : IsTup h1 b #[.ref q.2.1, q.2.2] := htup.extBut hs1.extBut hbI
    have hl1 : h1.IsList l items := hl.extBut hs1.extBut hlI
    obtain ⟨oS, esS, epS, g1, g2, g3, g4, _, g6⟩ := hm
    have hm1 : h1.DictOfH (tupleKind (mixKind prog w)) S acc := ⟨oS, esS, epS, hs1.extBut S oS hSI g1, g2, g3, g4, ha h1 k1, g6⟩
    obtain ⟨o, ho, hc, n, hd⟩ := id ht1
    show wpAny _ A.in1 (holding [Value.ref b] _ >>= _) _ _ _
    refine wpAny_bind (wpAny_holding ?_)
    refine wpAny_bind (wpAny_tryCatch ?_)
    unfold Builtin.Dict.pairItems
    refine wpAny_bind (wpAny_typeOf (T := "tuple") ⟨o, ho, hc⟩ ?_)
    rw [if_pos (by first | decide | rfl | simp)]
    refine wpAny_bind (wpAny_seqItems ho hd (wpAny_pure ?_))
    show wpAny _ A.in1 (holding [.ref q.2.1, q.2.2] (dictSet S (.ref q.2.1) q.2.2)) _ _ _
    have hfresh : q.1 ∉ acc.map (·.1) := fun z => by
      rw [List.map_append, List.map_cons] at hn
      exact (List.nodup_append.mp hn).2.2 q.1 z q.1 (by simp) rfl
    refine wpAny_holding (wpAny_dictSet_heap (knd := tupleKind (mixKind prog w)) (k := q.1) (tupleKind_room_in1 (by omega)) (hk q (by simp) h1 k1) hm1 (fun h2 hm2 hs2 => ?_) (by omega))
    rw [storedH_new (atKey_no hfresh)] at hm2
    have k2 : ∀ b o, b ≠ S → b ≠ I → s.heap.get? b = some o → h2.get? b = some o := fun b o h3 h4 e => hs2.extBut b o h3 (k1 b o h3 h4 e)
    refine wpAny_pure ⟨plainId_quiet ud_plain _, upd_loopT (items := items) hu hh hlI hSI hSl rest (i + 1) (acc ++ [(q.1, q.2.1, q.2.2)]) (ix + 1) 0 _ (show items.size = i + 1 + rest.length by omega) ?_ ?_ (fun j q' e => ?_) (fun q' hq' h' kp => ?_) ?_ ?_ hm2 (fun h' kp q' hq' => ?_) fun h' tk hd' k => ?_⟩
    · rw [List.length_append]; simp; omega
    · rw [List.append_assoc]; exact hn
    · obtain ⟨b', hb', hbS', hbI', htup'⟩ := ht (j + 1) q' (by simpa using e)
      refine ⟨b', ?_, hbS', hbI', (htup'.extBut hs1.extBut hbI').extBut hs2.extBut hbS'⟩
      rw [show i + 1 + j = i + (j + 1) by omega]
      exact hb'
    · exact hk q' (by simp [hq']) h' fun b o h3 h4 e => kp b o h3 h4 (k2 b o h3 h4 e)
    · exact hit1.at fun o' e => hs2.extBut I o' (Ne.symm hSI) e
    · exact hl1.extBut hs2.extBut (Ne.symm hSl)
    · rcases List.mem_append.mp hq' with z | z
      · exact ha h' (fun b o h3 h4 e => kp b o h3 h4 (k2 b o h3 h4 e)) q' z
      · have e : q' = q := by simpa using z
        rw [e]
        exact hk q (by simp) h' fun b o h3 h4 e => kp b o h3 h4 (k2 b o h3 h4 e)
    · rw [List.append_assoc] at hd'
      exact hR h' tk hd' fun c oc h3 h4 e => k c oc h3 h4 (k2 c oc h3 h4 e)
theorem call_dict_pairsT {s : Shared} {l : Addr} {ol : Obj} {items : Array Value} {n : Nat} {prs : List (List L2.Key × Addr × Value)} {Q : Value → Shared → Prop} (hu : A.units + 64 < cLine) (hh : A.handled = none) (hl : s.heap.get? l = some ol) (hc : ol.cls = .type "list") (hd : ol.dict = none)
    (hdat : ol.data = .seq items n) (hsz : items.size = prs.length) (hln : prs.length ≤ sizeLine) (hn : (prs.map (·.1)).Nodup)
    (ht : ∀ (j : Nat) (q : List L2.Key × Addr × Value), prs[j]? = some q → ∃ b : Addr, items[j]? = some (.ref b) ∧ IsTup s.heap b #[.ref q.2.1, q.2.2])
    (hk : ∀ q ∈ prs, ∀ h', (∀ b o, s.heap.get? b = some o → h'.get? b = some o) → (tupleKind (mixKind prog w)).is h' q.1 q.2.1)
    (h : ∀ h' tk, h'.DictOfH (tupleKind (mixKind prog w)) s.heap.objs.size prs → (∀ b o, s.heap.get? b = some o → h'.get? b = some o) → Q (.ref s.heap.objs.size) { s with heap := h', toks := tk }) :
    wpAny (model prog w) A (call (.type "dict") [.ref l]) Q E s := by
  refine callType_codes (Q₁ := fun obj s₁ => obj = .ref s.heap.objs.size ∧ s₁ = { s with heap := s.heap.push { cls := .type "dict", data := .dict #[] } }) PySem.F.kt_called_dict (PySem.F.kt_typeCall_dict_1 _) PySem.F.entry_dict_init (kt_code_dict_new _ ⟨rfl, rfl⟩) ?_
  rintro obj s₁ ⟨rfl, rfl⟩
  have hnew : (s.heap.push { cls := .type "dict", data := .dict #[] }).DictOfH (tupleKind (mixKind prog w)) s.heap.objs.size [] := ⟨_, #[], 0, Heap.get?_push_size _ rfl, ⟨rfl, rfl, rfl⟩, rfl, rfl, (fun x hx => by cases hx), List.nodup_nil⟩
  have hT0 : ({ s with heap := s.heap.push { cls := .type "dict", data := .dict #[] } } : Shared).TypeIs (.ref s.heap.objs.size) "dict" := ⟨_, Heap.get?_push_size _ rfl, rfl⟩
  have k0 : ∀ b o, s.heap.get? b = some o → (s.heap.push { cls := .type "dict", data := .dict #[] }).get? b = some o := fun b o e => Heap.get?_push_of_some _ e
  refine ⟨hT0, PySem.F.args_dict_init_2 _ _, ?_⟩
  unfold Builtin.«dict.__init__»
  refine wpAny_bind ?_
  unfold Builtin.Dict.selfAndRest
  refine wpAny_bind (wpAny_notOrdered_dict hT0 ?_)
  show wpAny _ _ (pure (s.heap.objs.size, [Value.ref l])) _ _ _
  refine wpAny_pure ?_
  show wpAny _ _ (Builtin.Dict.updateFrom "dict.__init__" s.heap.objs.size (.ref l) [] .none) _ _ _
  unfold Builtin.Dict.updateFrom
  refine wpAny_bind (wpAny_typeOf (T := "list") ⟨ol, k0 _ _ hl, hc⟩ ?_)
  rw [if_pos (by first | decide | rfl | simp)]
  refine wpAny_bind (miss_list (k0 _ _ hl) hc hdat hd hh fun h1 tk1 hk1 => ?_)
  rw [if_pos (show (none : Option Value).isNone = true from rfl)]
  refine wpAny_bind (wpAny_rule ?_)
  have hl1 : h1.IsList l items := ⟨ol, hk1 _ _ (k0 _ _ hl), hc, n, hdat⟩
  have hS1 : s.heap.objs.size < h1.objs.size := by
    have e : (s.heap.push { cls := .type "dict", data := .dict #[] }).get? s.heap.objs.size = some { cls := .type "dict", data := .dict #[] } := Heap.get?_push_size _ rfl
    exact Heap.lt_size (hk1 _ _ e)
  refine wpAny_bind (wpAny_pyIter_list hl1 ?_)
  have k2 : ∀ b o, h1.get? b = some o → (h1.push { cls := .type "list_iterator", data := .fields #[.ref l, .int 0 0] }).get? b = some o := fun b o e => Heap.get?_push_of_some _ e
  have hlt : l < s.heap.objs.size := Heap.lt_size hl
  obtain ⟨oS, esS, epS, g1, g2, g3, g4, g5, g6⟩ := hnew
  have key := upd_loopT (prog := prog) (w := w) (A := A.in1) (R := wants (fun r s₂ => r = .none ∧ Q (.ref s.heap.objs.size) s₂) E) (S := s.heap.objs.size) (I := h1.objs.size) (l := l) (items := items) (res := Value.none) (by rw [units_in1]; omega) hh
    (Nat.ne_of_lt (Nat.lt_trans hlt hS1)) (Nat.ne_of_lt hS1) (Nat.ne_of_gt hlt) prs 0 [] 0 0
    { s with heap := h1.push { cls := .type "list_iterator", data := .fields #[.ref l, .int 0 0] }, toks := tk1 } (by rw [hsz, Nat.zero_add]) (by rw [List.length_nil, Nat.zero_add]; exact hln) (by simpa using hn)
    (fun j q e => by
      obtain ⟨b, e1, e2⟩ := ht j q e
      have hb : b < s.heap.objs.size := e2.lt
      exact ⟨b, by rw [Nat.zero_add]; exact e1, Nat.ne_of_lt hb, Nat.ne_of_lt (Nat.lt_trans hb hS1), e2.keeps fun c o z => k2 _ _ (hk1 _ _ (k0 _ _ z))⟩)
    (fun q hq h' kp => hk q hq h' fun b o e => kp b o (Nat.ne_of_lt (Heap.lt_size e)) (Nat.ne_of_lt (Nat.lt_trans (Heap.lt_size e) hS1)) (k2 _ _ (hk1 _ _ (k0 _ _ e))))
    ⟨_, Heap.get?_push_size _ rfl, rfl, rfl⟩ (hl1.at fun o e => k2 _ _ e) ⟨oS, esS, epS, k2 _ _ (hk1 _ _ g1), g2, g3, g4, (fun x hx => by cases hx), g6⟩ (fun h' kp q hq => by cases hq)
    (fun h' tk hd' k => ⟨rfl, h h' tk (by simpa using hd') fun b o e => k b o (Nat.ne_of_lt (Heap.lt_size e)) (Nat.ne_of_lt (Nat.lt_trans (Heap.lt_size e) hS1)) (k2 _ _ (hk1 _ _ (k0 _ _ e)))⟩)
  first
    | exact wpAny_pure ⟨plainId_quiet ud_plain _, key⟩
    | exact wpAny_bind (wpAny_pure (wpAny_pure ⟨plainId_quiet ud_plain _, key⟩))
end
/-- a pair: its tuple, the key's own tuple, the key, the value -/
structure PrT where
  (p q : Addr) (k : List L2.Key) (v : V)
section
variable {X : Cx}
theorem pairs_ofT {pins : List (Addr × Obj)} {σ : St} {H : Hp} {s : Shared} (I : Inv X pins σ H s) : ∀ {L : List PrT}, (∀ t ∈ L, H t.p = some (.tup [.ref t.q, t.v]) ∧ H t.q = some (.tup (t.k.map kV))) →
    ∃ prs : List (List L2.Key × Addr × Value), Paired (fun (p : List L2.Key × V) (q : List L2.Key × Addr × Value) => p.1 = q.1 ∧ H q.2.1 = some (.tup (p.1.map kV)) ∧ RelV p.2 q.2.2) (L.map fun t => (t.k, t.v)) prs ∧ prs.length = L.length ∧
      (∀ (j : Nat) (q : List L2.Key × Addr × Value), prs[j]? = some q → ∃ b : Addr, (L.map (·.p))[j]? = some b ∧ IsTup s.heap b #[.ref q.2.1, q.2.2]) ∧ (∀ q ∈ prs, (tupleKind (mixKind X.prog X.w)).is s.heap q.1 q.2.1) ∧ prs.map (·.1) = L.map (·.k)
  | [], _ => ⟨[], .nil, rfl, (fun j q e => by simp at e), (fun q hq => by cases hq), rfl⟩
  | t :: L, h => by
    obtain ⟨prs, r, hl, hp, hk, hm⟩ := pairs_ofT I (L := L) fun u hu => h u (by simp [hu])
    obtain ⟨h1, h2⟩ := h t (by simp)
    obtain ⟨_, its, rv, o, e1, e2, n, e3⟩ := (show ObjOk X.prog X.w H s.heap t.p (.tup [.ref t.q, t.v]) from I.hok _ _ h1)
    obtain ⟨u, y, ei, ru, ry⟩ := vals2 rv
    subst ei
    cases ru
    refine ⟨(t.k, t.q, y) :: prs, .cons ⟨rfl, h2, ry⟩ r, by rw [List.length_cons, List.length_cons, hl], fun j q e => ?_, fun q hq => ?_, by rw [List.map_cons, List.map_cons, hm]⟩
    · cases j with
      | zero =>
        have e' : (t.k, t.q, y) = q := Option.some.inj e
        subst e'
        exact ⟨t.p, rfl, o, e1, e2, n, e3⟩
      | succ j =>
        obtain ⟨b, e1, e2⟩ := hp j q (by simpa using e)
        exact ⟨b, by simpa using e1, e2⟩
    · rcases List.mem_cons.mp hq with z | z
      · rw [z]; exact key_of I.hok h2
      · exact hk q z
theorem call_dictPT (hu : X.A.units + 64 < cLine) (hcalm : X.calm = true) : CallR X (.type "dict") (fun xs H Q => ∃ (a : Addr) (L : List PrT), xs = [.ref a] ∧ SqL X.K H a (L.map fun t => V.ref t.p) ∧ (∀ t ∈ L, H t.p = some (.tup [.ref t.q, t.v]) ∧ H t.q = some (.tup (t.k.map kV))) ∧ (L.map (·.k)).Nodup ∧
    ∀ p, H p = none → Q (.ref p) (upd H p (.dT (L.map fun t => (t.k, t.v))))) := by
  intro pins s σ H xs us Q I r q
  obtain ⟨a, L, rfl, hq, hp, hn, q⟩ := q
  rw [Vals.ref1 r]
  obtain ⟨its, rv, pl, hz⟩ := I.list hq
  have e0 : (L.map fun t => V.ref t.p) = (L.map (·.p)).map V.ref := by rw [List.map_map]; rfl
  rw [e0] at rv
  have ei := refs_at rv
  subst ei
  rw [List.length_map] at hz
  obtain ⟨prs, rel, hl, hpr, hkk, hm1⟩ := pairs_ofT I hp
  obtain ⟨o, n, ho, hc, hd, hdat⟩ := pl
  have fr : H s.heap.objs.size = none := I.hok.fresh (Nat.le_refl _)
  refine call_dict_pairsT (prs := prs) hu (I.ok.hd hcalm) ho hc hd hdat (by simp [hl]) (by rw [hl]; exact hz) (by rw [hm1]; exact hn) (fun j q' e => ?_) (fun q' hq' h' kp => ?_) fun h' tk hd' k => ?_
  · obtain ⟨b, e1, e2⟩ := hpr j q' e
    exact ⟨b, by simpa using e1, e2⟩
  · obtain ⟨ot, its, m, g1, g2, g3, g4⟩ := hkk q' hq'
    exact ⟨ot, its, m, kp _ _ g1, g2, g3, g4⟩
  · have hm : (s.heap.objs.size == sysModules) = false := beq_eq_false_iff_ne.mpr (Nat.ne_of_gt I.big)
    obtain ⟨o', es', ep', g1, g2, g3, g4, _, g6⟩ := hd'
    exact ⟨.ref s.heap.objs.size, upd H s.heap.objs.size (.dT (L.map fun t => (t.k, t.v))), I.laid (t' := tk) k (Nat.le_refl _)
      (show ObjOk X.prog X.w _ _ _ (.dT (L.map fun t => (t.k, t.v))) from ⟨by rw [List.length_map]; exact hz, hm, prs, Paired.mapP rel (fun p q y => ⟨y.1, (upd_ne (ne_of_none y.2.1 fr)).trans y.2.1, y.2.2⟩), o', es', ep', g1, g2, g3, g4, g6⟩), rfl, q _ fr⟩
end

end Lw
namespace Lw
open PySem PySem.Spec L2 FG
open PyProof.Rows hiding St
/-! ### the twin: the plain part -/
structure TwC where
  (p q c : Addr) (r : Rm)
def TwC.pr (z : TwC) : PrT := ⟨z.p, z.q, z.r.key, .ref z.c⟩
def TwC.nr (z : TwC) : Rm := { z.r with c := z.c }
def reC (Z : List TwC) (r : Rm) : Rm := match Z.find? (fun z => decide (pk z.r = pk r)) with
  | some z => { r with c := z.c }
  | none => r
theorem reC_rho (Z : List TwC) (r : Rm) : rho (reC Z r) = rho r ∧ (reC Z r).w = r.w := by
  unfold reC
  split <;> exact ⟨rfl, rfl⟩
theorem find_pk : ∀ {Z : List TwC}, (Z.map fun z => pk z.r).Nodup → ∀ z ∈ Z, Z.find? (fun y => decide (pk y.r = pk z.r)) = some z
  | [], _, z, hz => by cases hz
  | y :: Z, hn, z, hz => by
    obtain ⟨h1, h2⟩ := List.nodup_cons.mp hn
    rcases List.mem_cons.mp hz with e | e
    · rw [e, List.find?_cons_of_pos (by simp)]
    · have n : pk y.r ≠ pk z.r := fun c => h1 (List.mem_map.mpr ⟨z, e, c.symm⟩)
      rw [List.find?_cons_of_neg (by simpa using n)]
      exact find_pk h2 z e
theorem reC_in {Z : List TwC} (hn : (Z.map fun z => pk z.r).Nodup) {z : TwC} (hz : z ∈ Z) : reC Z z.r = z.nr := by
  unfold reC
  rw [find_pk hn z hz]
  rfl
def HSt.twin (s : HSt) (q h t gd fd sd hd : Addr) (Z : List TwC) : HSt := ⟨q, h, t, gd, fd, sd, hd, s.hs, s.ts, s.rs.map (reC Z), s.gs, s.most, s.top⟩
section
variable {s : HSt} {q h t gd fd sd hd : Addr} {Z : List TwC}
theorem tw_rho : (s.twin q h t gd fd sd hd Z).rs.map rho = s.rs.map rho := by
  show (s.rs.map (reC Z)).map rho = _
  rw [List.map_map]
  exact List.map_congr_left fun r _ => (reC_rho Z r).1
theorem tw_here (pl : HPl s) (e : Z.map (·.r) = s.here) : (s.twin q h t gd fd sd hd Z).here = Z.map TwC.nr := by
  have hn : (Z.map fun z => pk z.r).Nodup := by
    have z1 : (s.here.map pk).Nodup := (List.Sublist.map pk (here_sub s)).nodup pl.kn
    rw [← e, List.map_map] at z1
    exact z1
  show (s.rs.map (reC Z)).filter _ = _
  have z2 : (s.rs.map (reC Z)).filter (s.twin q h t gd fd sd hd Z).up = (s.rs.filter s.up).map (reC Z) := by
    rw [List.filter_map]
    congr 1
    refine List.filter_congr fun r _ => ?_
    have f1 : (reC Z r).f = r.f := congrArg Prod.fst (reC_rho Z r).1
    show decide (s.ts[(reC Z r).f]? = some none) = decide (s.ts[r.f]? = some none)
    rw [f1]
  rw [z2]
  show s.here.map (reC Z) = _
  rw [← e, List.map_map]
  exact List.map_congr_left fun z hz => reC_in hn hz
theorem tw_giv (f : Nat) : ((s.twin q h t gd fd sd hd Z).giv f).map (·.w) = (s.giv f).map (·.w) := by
  show ((s.rs.map (reC Z)).filter _).map _ = _
  rw [List.filter_map, List.map_map]
  have e1 : s.rs.filter ((fun r => decide (r.f = f)) ∘ reC Z) = s.giv f := List.filter_congr fun r _ => by
    have f1 : (reC Z r).f = r.f := congrArg Prod.fst (reC_rho Z r).1
    show decide ((reC Z r).f = f) = decide (r.f = f)
    rw [f1]
  rw [e1]
  exact List.map_congr_left fun r _ => (reC_rho Z r).2
theorem tw_fill (f : Nat) : (s.twin q h t gd fd sd hd Z).fill f = s.fill f := rho_szs (rho_filter tw_rho fun t => decide (t.1 = f))
theorem tw_used (pl : HPl s) (e : Z.map (·.r) = s.here) : (s.twin q h t gd fd sd hd Z).used = s.used := by
  unfold HSt.used
  rw [tw_here pl e, ← e]
  unfold szs
  rw [List.map_map, List.map_map]; rfl
theorem tw_mem {r : Rm} (hr : r ∈ (s.twin q h t gd fd sd hd Z).rs) : ∃ r0 ∈ s.rs, r.f = r0.f ∧ r.o = r0.o ∧ r.cells = r0.cells ∧ r.w = r0.w := by
  obtain ⟨r0, h0, rfl⟩ := List.mem_map.mp hr
  obtain ⟨e1, e2⟩ := reC_rho Z r0
  exact ⟨r0, h0, congrArg Prod.fst e1, congrArg (fun z => z.2.1) e1, congrArg (fun z => z.2.2) e1, e2⟩
theorem tw_pl (pl : HPl s) (e : Z.map (·.r) = s.here) (nc : (Z.map (·.c)).Nodup) (dj : ∀ a ∈ s.gs.map (·.2), a ∉ Z.map (·.c)) (d1 : h ∉ s.gs.map (·.2) ++ Z.map (·.c)) (d2 : t ∉ s.gs.map (·.2) ++ Z.map (·.c)) (d3 : gd ≠ fd) (d4 : sd ≠ hd) : HPl (s.twin q h t gd fd sd hd Z) := by
  have ec : (s.twin q h t gd fd sd hd Z).here.map (·.c) = Z.map (·.c) := by rw [tw_here pl e, List.map_map]; rfl
  have ek : (s.twin q h t gd fd sd hd Z).rs.map pk = s.rs.map pk := rho_pk tw_rho
  refine ⟨pl.gn, fun r hr => ?_, ?_, ?_, fun r hr => ?_, fun r hr => ?_, fun r hr => ?_, pl.mo, ?_, pl.tm, ?_, ?_, ?_, d3, d4⟩
  · obtain ⟨r0, h0, f0, _⟩ := tw_mem hr
    rw [f0]; exact pl.gm r0 h0
  · show s.gs.length ≤ (s.rs.map (reC Z)).length
    rw [List.length_map]; exact pl.gle
  · exact ek ▸ pl.kn
  · obtain ⟨r0, h0, f0, o0, c0, _⟩ := tw_mem hr
    rw [tw_fill, f0, o0, c0]; exact pl.ro r0 h0
  · obtain ⟨r0, h0, f0, o0, c0, _⟩ := tw_mem hr
    rw [c0]; exact pl.sz r0 h0
  · obtain ⟨r0, h0, f0, o0, c0, _⟩ := tw_mem hr
    rw [f0]; exact pl.fl r0 h0
  · rw [tw_used pl e]; exact pl.tp
  · rw [ec]
    exact List.nodup_append.mpr ⟨(List.nodup_append.mp pl.sp).1, nc, fun a ha b hb c => dj a ha (c ▸ hb)⟩
  · rw [ec]; exact d1
  · rw [ec]; exact d2
end
/-! ### the twin: the walk -/
def spTwin (K : PySem.W.Frag) : Sp := fun vs H Q _ => ∃ s : HSt, vs = [.ref s.p] ∧ HoAt (CH K) H s ∧ 1 ≤ s.most ∧ (∀ r ∈ s.rs, r.f < 128 ∧ r.o < 4096) ∧
  ∀ q h t gd fd sd hd Z H', (∀ a ∈ [q, h, t, gd, fd, sd, hd] ++ Z.map (·.c), H a = none) → Z.map (·.r) = s.here → Kp [] H H' → HoAt (CH K) H' (s.twin q h t gd fd sd hd Z) → Q (.ref q) H'
def n7 : List Str := ["holders", "takers", "top", "given", "filled", "sizes", "held"]
structure Has7 (fs : List (Str × V)) : Prop where
  l : ∀ g ∈ n7, ∃ y, fs.lookup g = some y
  n : fs.length ≤ 20
theorem Has7.put {fs : List (Str × V)} (x : Has7 fs) {f : Str} (hf : f ∈ n7) (v : V) : Has7 (putF f v fs) := by
  refine ⟨fun g hg => ?_, ?_⟩
  · rw [lookup_putF]
    by_cases c : g = f
    · rw [if_pos c]; exact ⟨_, rfl⟩
    · rw [if_neg c]; exact x.l g hg
  · obtain ⟨y, hy⟩ := x.l f hf
    rw [putF_len hy]; exact x.n
def tw7 (fq : List (Str × V)) (h t gd fd sd hd : Addr) (top : Nat) : List (Str × V) :=
  putF "held" (.ref hd) (putF "sizes" (.ref sd) (putF "filled" (.ref fd) (putF "given" (.ref gd) (putF "top" (.int top) (putF "takers" (.ref t) (putF "holders" (.ref h) fq))))))
theorem tw7_ok {fq : List (Str × V)} {s0 s : HSt} {q h t gd fd sd hd : Addr} {Z : List TwC} (ff : FrF fq s0.h s0.t) (hf : HoF fq s0) (h7 : Has7 (tw7 fq h t gd fd sd hd s.top)) (em : s0.most = s.most) : FrF (tw7 fq h t gd fd sd hd s.top) h t ∧ HoF (tw7 fq h t gd fd sd hd s.top) (s.twin q h t gd fd sd hd Z) := by
  have r : ∀ {f g : Str} {v : V} {fs : List (Str × V)}, ¬ g = f → (putF f v fs).lookup g = fs.lookup g := fun n => by rw [lookup_putF, if_neg n]
  have y : ∀ {f : Str} {v : V} {fs : List (Str × V)}, (putF f v fs).lookup f = some v := by intro f v fs; rw [lookup_putF, if_pos rfl]
  have z : (frMeths.all fun m => decide (m ∉ n7)) = true := by decide +kernel
  unfold tw7 at h7 ⊢
  refine ⟨⟨?_, ?_, fun m hm => ?_⟩, ⟨?_, ?_, ?_, ?_, ?_, ?_, h7.n⟩⟩
  · rw [r (by decide +kernel), r (by decide +kernel), r (by decide +kernel), r (by decide +kernel), r (by decide +kernel), r (by decide +kernel), y]
  · rw [r (by decide +kernel), r (by decide +kernel), r (by decide +kernel), r (by decide +kernel), r (by decide +kernel), y]
  · have z2 := of_decide_eq_true (List.all_eq_true.mp z m hm)
    simp only [n7, List.mem_cons, List.not_mem_nil, or_false, not_or] at z2
    rw [r z2.2.2.2.2.2.2, r z2.2.2.2.2.2.1, r z2.2.2.2.2.1, r z2.2.2.2.1, r z2.2.2.1, r z2.2.1, r z2.1]
    exact ff.no m hm
  · rw [r (by decide +kernel), r (by decide +kernel), r (by decide +kernel), r (by decide +kernel), r (by decide +kernel), r (by decide +kernel), r (by decide +kernel), hf.most, em]; rfl
  · rw [r (by decide +kernel), r (by decide +kernel), r (by decide +kernel), r (by decide +kernel), y]; rfl
  · rw [r (by decide +kernel), r (by decide +kernel), r (by decide +kernel), y]; rfl
  · rw [r (by decide +kernel), r (by decide +kernel), y]; rfl
  · rw [r (by decide +kernel), y]; rfl
  · rw [y]; rfl
theorem has7 {fq : List (Str × V)} {s0 : HSt} (ff : FrF fq s0.h s0.t) (hf : HoF fq s0) : Has7 fq := by
  refine ⟨fun g hg => ?_, hf.len⟩
  simp only [n7, List.mem_cons, List.not_mem_nil, or_false] at hg
  rcases hg with rfl | rfl | rfl | rfl | rfl | rfl | rfl
  · exact ⟨_, ff.hh⟩
  · exact ⟨_, ff.tt⟩
  · exact ⟨_, hf.top⟩
  · exact ⟨_, hf.gd⟩
  · exact ⟨_, hf.fd⟩
  · exact ⟨_, hf.sd⟩
  · exact ⟨_, hf.hd⟩
section
variable {P : Program} {w : World} {K : PySem.W.Frag} {mg : Str → Option Value} {base : Heap}
theorem ok_twin (T : Tx K mg) {fdt : FuncData} {ft : Addr} (F : Fun K "twin" "House.twin" s_House_twin ft fdt) (k_House : Mak P w K mg base 3 "House" (CH K) (spHInit K)) : FnG P w K mg base 5 ft fdt ["self"] (spTwin K) := by
  refine FnG.of F sc_House_twin (fun vs H Q E h => ?_) (fun cdv A outer sh H vs Q E hr h => ?_)
  · obtain ⟨s, rfl, _⟩ := h; rfl
  · obtain ⟨s, rfl, ho, hm1, hsm, fin⟩ := h
    obtain ⟨dx, fs, e, ff, hf⟩ := ho.ob
    have pl := ho.pl
    refine ⟨_, pss_cons (ps_set (i := 1) sc_House_twin.nd rfl (by first | exact Or.inl rfl | exact Or.inr rfl) (gk k_House (hr.mono (by decide)) takes0 (pa_cons (kfld K (pv 0)) (pa_nil))))
      (pss_cons (ksFld K (pv 1) (pe_callTy (klist K) (by rfl) T.z_list (by decide +kernel) (pa_cons (kfld K (pv 0)) (pa_nil))))
      (pss_cons (ksFld K (pv 1) (pe_callTy (klist K) (by rfl) T.z_list (by decide +kernel) (pa_cons (kfld K (pv 0)) (pa_nil))))
      (pss_cons (ksFld K (pv 1) (kfld K (pv 0)))
      (pss_cons (ksFld K (pv 1) (pe_callTy call_dictD (by rfl) T.z_dict (by decide +kernel) (pa_cons (kfld K (pv 0)) (pa_nil))))
      (pss_cons (ksFld K (pv 1) (pe_callTy call_dictD (by rfl) T.z_dict (by decide +kernel) (pa_cons (kfld K (pv 0)) (pa_nil))))
      (pss_cons (ksFld K (pv 1) (pe_callTy (call_dictT hr.r.units) (by rfl) T.z_dict (by decide +kernel) (pa_cons (kfld K (pv 0)) (pa_nil))))
      (pss_cons (ksFld K (pv 1) (pe_callTy (call_dictPT hr.r.units rfl) (by rfl) T.z_dict (by decide +kernel) (pa_cons (pe_lock (pe_lc (own := [("way", 2), ("cells", 3)]) (g := gTup K 2 (gCons (gName 2) (gCons (gName 3) (gNil)))) (tt := tYes) rfl sc_House_twin.nd (pi_itemsT (kfld K (pv 0))) (blkOk_by (own := [("way", 2), ("cells", 3)]) (N := ["self", "other", "way", "cells"]) (sc := defScope s_House_twin) (by decide +kernel)) (fun _ _ _ _ _ => by exact kgT K rfl (pgs_cons (pg_name (i := 2) sc_House_twin.nd rfl (by first | exact Or.inl rfl | exact Or.inr rfl)) (pgs_cons (pg_name (i := 3) sc_House_twin.nd rfl (by first | exact Or.inl rfl | exact Or.inr rfl)) (pgs_nil)))) (fun _ _ _ _ _ => by exact pts_nil) (fun _ _ _ _ _ => by exact pe_tup (pa_cons (pv 2) (pa_cons (pe_callTy (klist K) (by rfl) T.z_list (by decide +kernel) (pa_cons (pv 3) (pa_nil))) (pa_nil)))))) (pa_nil))))
      (pss_one (ps_ret (pv 1)))))))))), ?_⟩
    refine ⟨_, rfl, s.p, CH K, dx, fs, _, rfl, e, T.c_House, T.n_House_most, hf.most, fun q dq hq hdq ndq => ⟨q, dq, s.most, rfl, upd_same, hm1, pl.mo, fun h0 t0 gd0 fd0 sd0 hd0 H1 f0 k1 hb => ⟨rfl, ?_⟩⟩⟩
    have K1 : Kp [] H H1 := made_kp hq hdq k1
    obtain ⟨dq', fq, eq, fqF, hqF⟩ := hb.ob
    have eq : H1 q = some (.ins (CH K) dq' fq) := eq
    have e1 := K1 _ _ e (by simp)
    have np : s.p ≠ q := ne_of_none e hq
    have smk : ∀ k ∈ s.sdL.map (·.1), SmK k := fun k hk => by
      unfold HSt.sdL at hk
      rw [List.map_map] at hk
      obtain ⟨r, hr, rfl⟩ := List.mem_map.mp hk
      exact ⟨r.f, r.o, rfl, (hsm r hr).1, (hsm r hr).2⟩
    have g1 := has7 fqF hqF
    have eq1 := eq
    -- holders
    refine ⟨_, rfl, s.p, CH K, dx, fs, _, rfl, K1 _ _ e (by simp), T.c_House, T.n_House_holders, ff.hh, s.h, _, rfl, .inl (SqL.of (K1 _ _ ho.lh (by simp))), fun h hh => ?_⟩
    have nh : h ≠ q := (ne_of_none eq1 hh).symm
    refine ⟨_, rfl, q, CH K, dq', fq, rfl, (upd_ne nh.symm).trans eq1, T.c_House, T.n_House_holders, (by have := g1.n; show List.length _ < 1000; omega), ?_⟩
    have fr_h : H h = none := K1.fr hh
    have K2 : Kp [] H (upd (upd H1 h (.lst (s.hs.map enc))) q (.ins (CH K) dq' (putF "holders" (.ref h) fq))) := fun b o eb _ => (upd_ne (ne_of_none eb hq)).trans ((upd_ne (ne_of_none eb fr_h)).trans (K1 b o eb (by simp)))
    have eq2 : upd (upd H1 h (.lst (s.hs.map enc))) q (.ins (CH K) dq' (putF "holders" (.ref h) fq)) q = some (.ins (CH K) dq' (putF "holders" (.ref h) fq)) := upd_same
    have vh : upd (upd H1 h (.lst (s.hs.map enc))) q (.ins (CH K) dq' (putF "holders" (.ref h) fq)) h = some (.lst (s.hs.map enc)) := (upd_ne nh).trans upd_same
    have g2 := g1.put (f := "holders") (by decide +kernel) (.ref h)
    generalize upd (upd H1 h (.lst (s.hs.map enc))) q (.ins (CH K) dq' (putF "holders" (.ref h) fq)) = H2 at *
    obtain ⟨f1, xf1⟩ : ∃ z, z = putF "holders" (.ref h) fq := ⟨_, rfl⟩
    rw [← xf1] at eq2 g2
    -- takers
    refine ⟨_, rfl, s.p, CH K, dx, fs, _, rfl, K2 _ _ e (by simp), T.c_House, T.n_House_takers, ff.tt, s.t, _, rfl, .inl (SqL.of (K2 _ _ ho.lt (by simp))), fun t ht => ?_⟩
    have nt : t ≠ q := (ne_of_none eq2 ht).symm
    refine ⟨_, rfl, q, CH K, dq', f1, rfl, (upd_ne nt.symm).trans eq2, T.c_House, T.n_House_takers, (by have := g2.n; show List.length _ < 1000; omega), ?_⟩
    have fr_t : H t = none := K2.fr ht
    have K3 : Kp [] H (upd (upd H2 t (.lst (s.ts.map enc))) q (.ins (CH K) dq' (putF "takers" (.ref t) f1))) := fun b o eb _ => (upd_ne (ne_of_none eb hq)).trans ((upd_ne (ne_of_none eb fr_t)).trans (K2 b o eb (by simp)))
    have eq3 : upd (upd H2 t (.lst (s.ts.map enc))) q (.ins (CH K) dq' (putF "takers" (.ref t) f1)) q = some (.ins (CH K) dq' (putF "takers" (.ref t) f1)) := upd_same
    have vt : upd (upd H2 t (.lst (s.ts.map enc))) q (.ins (CH K) dq' (putF "takers" (.ref t) f1)) t = some (.lst (s.ts.map enc)) := (upd_ne nt).trans upd_same
    have nht : h ≠ t := ne_of_none vh ht
    have vh : upd (upd H2 t (.lst (s.ts.map enc))) q (.ins (CH K) dq' (putF "takers" (.ref t) f1)) h = _ := (upd_ne nh).trans ((upd_ne (ne_of_none vh ht)).trans vh)
    have g3 := g2.put (f := "takers") (by decide +kernel) (.ref t)
    generalize upd (upd H2 t (.lst (s.ts.map enc))) q (.ins (CH K) dq' (putF "takers" (.ref t) f1)) = H3 at *
    obtain ⟨f2, xf2⟩ : ∃ z, z = putF "takers" (.ref t) f1 := ⟨_, rfl⟩
    rw [← xf2] at eq3 g3
    -- top
    refine ⟨_, rfl, s.p, CH K, dx, fs, _, rfl, K3 _ _ e (by simp), T.c_House, T.n_House_top, hf.top, ?_⟩
    refine ⟨_, rfl, q, CH K, dq', f2, rfl, eq3, T.c_House, T.n_House_top, (by have := g3.n; show List.length _ < 1000; omega), ?_⟩
    have K4 : Kp [] H (upd H3 q (.ins (CH K) dq' (putF "top" (.int s.top) f2))) := fun b o eb _ => (upd_ne (ne_of_none eb hq)).trans (K3 b o eb (by simp))
    have eq4 : upd H3 q (.ins (CH K) dq' (putF "top" (.int s.top) f2)) q = some (.ins (CH K) dq' (putF "top" (.int s.top) f2)) := upd_same
    have vh : upd H3 q (.ins (CH K) dq' (putF "top" (.int s.top) f2)) h = _ := (upd_ne nh).trans vh
    have vt : upd H3 q (.ins (CH K) dq' (putF "top" (.int s.top) f2)) t = _ := (upd_ne nt).trans vt
    have g4 := g3.put (f := "top") (by decide +kernel) (.int s.top)
    generalize upd H3 q (.ins (CH K) dq' (putF "top" (.int s.top) f2)) = H4 at *
    obtain ⟨f3, xf3⟩ : ∃ z, z = putF "top" (.int s.top) f2 := ⟨_, rfl⟩
    rw [← xf3] at eq4 g4
    -- given
    refine ⟨_, rfl, s.p, CH K, dx, fs, _, rfl, K4 _ _ e (by simp), T.c_House, T.n_House_given, hf.gd, s.gd, s.gdL, rfl, .inl (K4 _ _ ho.gd (by simp)), fun gd hgd => ?_⟩
    have ngd : gd ≠ q := (ne_of_none eq4 hgd).symm
    refine ⟨_, rfl, q, CH K, dq', f3, rfl, (upd_ne ngd.symm).trans eq4, T.c_House, T.n_House_given, (by have := g4.n; show List.length _ < 1000; omega), ?_⟩
    have fr_gd : H gd = none := K4.fr hgd
    have K5 : Kp [] H (upd (upd H4 gd (.dK s.gdL)) q (.ins (CH K) dq' (putF "given" (.ref gd) f3))) := fun b o eb _ => (upd_ne (ne_of_none eb hq)).trans ((upd_ne (ne_of_none eb fr_gd)).trans (K4 b o eb (by simp)))
    have eq5 : upd (upd H4 gd (.dK s.gdL)) q (.ins (CH K) dq' (putF "given" (.ref gd) f3)) q = some (.ins (CH K) dq' (putF "given" (.ref gd) f3)) := upd_same
    have vgd : upd (upd H4 gd (.dK s.gdL)) q (.ins (CH K) dq' (putF "given" (.ref gd) f3)) gd = some (.dK s.gdL) := (upd_ne ngd).trans upd_same
    have vh : upd (upd H4 gd (.dK s.gdL)) q (.ins (CH K) dq' (putF "given" (.ref gd) f3)) h = _ := (upd_ne nh).trans ((upd_ne (ne_of_none vh hgd)).trans vh)
    have vt : upd (upd H4 gd (.dK s.gdL)) q (.ins (CH K) dq' (putF "given" (.ref gd) f3)) t = _ := (upd_ne nt).trans ((upd_ne (ne_of_none vt hgd)).trans vt)
    have g5 := g4.put (f := "given") (by decide +kernel) (.ref gd)
    generalize upd (upd H4 gd (.dK s.gdL)) q (.ins (CH K) dq' (putF "given" (.ref gd) f3)) = H5 at *
    obtain ⟨f4, xf4⟩ : ∃ z, z = putF "given" (.ref gd) f3 := ⟨_, rfl⟩
    rw [← xf4] at eq5 g5
    -- filled
    refine ⟨_, rfl, s.p, CH K, dx, fs, _, rfl, K5 _ _ e (by simp), T.c_House, T.n_House_filled, hf.fd, s.fd, s.fdL, rfl, .inl (K5 _ _ ho.fd (by simp)), fun fd hfd => ?_⟩
    have nfd : fd ≠ q := (ne_of_none eq5 hfd).symm
    refine ⟨_, rfl, q, CH K, dq', f4, rfl, (upd_ne nfd.symm).trans eq5, T.c_House, T.n_House_filled, (by have := g5.n; show List.length _ < 1000; omega), ?_⟩
    have fr_fd : H fd = none := K5.fr hfd
    have K6 : Kp [] H (upd (upd H5 fd (.dK s.fdL)) q (.ins (CH K) dq' (putF "filled" (.ref fd) f4))) := fun b o eb _ => (upd_ne (ne_of_none eb hq)).trans ((upd_ne (ne_of_none eb fr_fd)).trans (K5 b o eb (by simp)))
    have eq6 : upd (upd H5 fd (.dK s.fdL)) q (.ins (CH K) dq' (putF "filled" (.ref fd) f4)) q = some (.ins (CH K) dq' (putF "filled" (.ref fd) f4)) := upd_same
    have vfd : upd (upd H5 fd (.dK s.fdL)) q (.ins (CH K) dq' (putF "filled" (.ref fd) f4)) fd = some (.dK s.fdL) := (upd_ne nfd).trans upd_same
    have ngf : gd ≠ fd := ne_of_none vgd hfd
    have vh : upd (upd H5 fd (.dK s.fdL)) q (.ins (CH K) dq' (putF "filled" (.ref fd) f4)) h = _ := (upd_ne nh).trans ((upd_ne (ne_of_none vh hfd)).trans vh)
    have vt : upd (upd H5 fd (.dK s.fdL)) q (.ins (CH K) dq' (putF "filled" (.ref fd) f4)) t = _ := (upd_ne nt).trans ((upd_ne (ne_of_none vt hfd)).trans vt)
    have vgd : upd (upd H5 fd (.dK s.fdL)) q (.ins (CH K) dq' (putF "filled" (.ref fd) f4)) gd = _ := (upd_ne ngd).trans ((upd_ne (ne_of_none vgd hfd)).trans vgd)
    have g6 := g5.put (f := "filled") (by decide +kernel) (.ref fd)
    generalize upd (upd H5 fd (.dK s.fdL)) q (.ins (CH K) dq' (putF "filled" (.ref fd) f4)) = H6 at *
    obtain ⟨f5, xf5⟩ : ∃ z, z = putF "filled" (.ref fd) f4 := ⟨_, rfl⟩
    rw [← xf5] at eq6 g6
    -- sizes
    refine ⟨_, rfl, s.p, CH K, dx, fs, _, rfl, K6 _ _ e (by simp), T.c_House, T.n_House_sizes, hf.sd, s.sd, s.sdL, rfl, K6 _ _ ho.sd (by simp), smk, fun sd hsd => ?_⟩
    have nsd : sd ≠ q := (ne_of_none eq6 hsd).symm
    refine ⟨_, rfl, q, CH K, dq', f5, rfl, (upd_ne nsd.symm).trans eq6, T.c_House, T.n_House_sizes, (by have := g6.n; show List.length _ < 1000; omega), ?_⟩
    have fr_sd : H sd = none := K6.fr hsd
    have K7 : Kp [] H (upd (upd H6 sd (.dT s.sdL)) q (.ins (CH K) dq' (putF "sizes" (.ref sd) f5))) := fun b o eb _ => (upd_ne (ne_of_none eb hq)).trans ((upd_ne (ne_of_none eb fr_sd)).trans (K6 b o eb (by simp)))
    have eq7 : upd (upd H6 sd (.dT s.sdL)) q (.ins (CH K) dq' (putF "sizes" (.ref sd) f5)) q = some (.ins (CH K) dq' (putF "sizes" (.ref sd) f5)) := upd_same
    have vsd : upd (upd H6 sd (.dT s.sdL)) q (.ins (CH K) dq' (putF "sizes" (.ref sd) f5)) sd = some (.dT s.sdL) := (upd_ne nsd).trans upd_same
    have vh : upd (upd H6 sd (.dT s.sdL)) q (.ins (CH K) dq' (putF "sizes" (.ref sd) f5)) h = _ := (upd_ne nh).trans ((upd_ne (ne_of_none vh hsd)).trans vh)
    have vt : upd (upd H6 sd (.dT s.sdL)) q (.ins (CH K) dq' (putF "sizes" (.ref sd) f5)) t = _ := (upd_ne nt).trans ((upd_ne (ne_of_none vt hsd)).trans vt)
    have vgd : upd (upd H6 sd (.dT s.sdL)) q (.ins (CH K) dq' (putF "sizes" (.ref sd) f5)) gd = _ := (upd_ne ngd).trans ((upd_ne (ne_of_none vgd hsd)).trans vgd)
    have vfd : upd (upd H6 sd (.dT s.sdL)) q (.ins (CH K) dq' (putF "sizes" (.ref sd) f5)) fd = _ := (upd_ne nfd).trans ((upd_ne (ne_of_none vfd hsd)).trans vfd)
    have g7 := g6.put (f := "sizes") (by decide +kernel) (.ref sd)
    generalize upd (upd H6 sd (.dT s.sdL)) q (.ins (CH K) dq' (putF "sizes" (.ref sd) f5)) = H7 at *
    obtain ⟨f6, xf6⟩ : ∃ z, z = putF "sizes" (.ref sd) f5 := ⟨_, rfl⟩
    rw [← xf6] at eq7 g7
    -- held
    have ehd := K7 _ _ ho.hd (by simp)
    have e7 := K7 _ _ e (by simp)
    have npd : s.p ≠ s.hd := ne_of e7 ehd (fun z => by cases z)
    refine ⟨s.hd, _, ehd, trivial, fun od => ?_⟩
    refine ⟨_, rfl, s.p, CH K, dx, fs, _, rfl, (upd_ne npd).trans e7, T.c_House, T.n_House_held, hf.hd, s.hd, od, _, rfl, upd_same, fun D hD => ?_⟩
    have nD : D ≠ s.hd := fun c => by rw [c, upd_same] at hD; cases hD
    have hD7 : H7 D = none := by rw [upd_ne nD] at hD; exact hD
    refine lc_it walk_itemsT (fun i H2 => (∀ b o, H7 b = some o → b ≠ s.hd → H2 b = some o) ∧ H2 s.hd = some (.frz od (.dT (hdL s.here))) ∧ ∃ Z : List TwC, Z.map (·.r) = s.here.take i ∧ H2 D = some (.lst (Z.map fun z => V.ref z.p)) ∧
      (∀ z ∈ Z, H2 z.p = some (.tup [.ref z.q, .ref z.c]) ∧ H2 z.q = some (.tup (z.r.key.map kV)) ∧ H2 z.c = some (.lst z.r.cells) ∧ H7 z.c = none ∧ z.c ≠ D) ∧ (Z.map (·.c)).Nodup)
      ⟨fun b o eb hb => ?_, ?_, [], rfl, upd_same, (fun z hz => by cases hz), List.nodup_nil⟩ (fun i H2 _ p => p.2.1) ?_ ?_
    · rw [upd_ne (ne_of_none eb hD7), upd_ne hb]; exact eb
    · rw [upd_ne nD.symm, upd_same]
    · rintro i x H3 H4 hi ⟨k3, e3, Z, eZ, eD, hZ, nZ⟩ ⟨T', k, v, q', hk, rfl, hq', hT, rfl⟩
      have hi2 : i < s.here.length := by simpa [hdL] using hi
      have hr2 : s.here[i]? = some s.here[i] := List.getElem?_eq_getElem hi2
      generalize s.here[i] = r at hr2
      have hm := List.mem_of_getElem? hr2
      obtain ⟨rfl, rfl⟩ : r.key = k ∧ V.ref r.c = v := by
        unfold hdL at hk
        rw [List.getElem?_map, hr2] at hk
        have hx2 : (r.key, V.ref r.c) = (k, v) := Option.some.inj hk
        exact ⟨congrArg Prod.fst hx2, congrArg Prod.snd hx2⟩
      have kT := (Kp.refl (S := []) (H := H3)).new (o := .tup [.ref q', .ref r.c]) hT
      have eT : upd H3 T' (.tup [.ref q', .ref r.c]) T' = some (.tup [.ref q', .ref r.c]) := upd_same
      generalize upd H3 T' (.tup [.ref q', .ref r.c]) = H4 at *
      have erc := K7 _ _ (ho.cl r hm) (by simp)
      have nrc : r.c ≠ s.hd := ne_of erc ehd (fun z => by cases z)
      have erc4 := kT _ _ (k3 _ _ erc nrc) (by simp)
      refine ⟨T', _, rfl, SqT.of eT, rfl, _, _, rfl, _, _, rfl, rfl, ?_⟩
      refine ⟨rfl, _, rfl, _, rfl, r.c, _, rfl, .inl (SqL.of erc4), fun c' hc' => ?_⟩
      have kC := (Kp.refl (S := []) (H := H4)).new (o := .lst r.cells) hc'
      have eC : upd H4 c' (.lst r.cells) c' = some (.lst r.cells) := upd_same
      generalize upd H4 c' (.lst r.cells) = H5 at *
      refine ⟨(by show 2 ≤ sizeLine; decide), fun p' hp' => ?_⟩
      have kP := (Kp.refl (S := []) (H := H5)).new (o := .tup [.ref q', .ref c']) hp'
      have eP : upd H5 p' (.tup [.ref q', .ref c']) p' = some (.tup [.ref q', .ref c']) := upd_same
      generalize upd H5 p' (.tup [.ref q', .ref c']) = H6 at *
      have k46 := (kT.trans kC).trans kP
      have eD6 := k46 _ _ eD (by simp)
      have nc : c' ≠ D := (ne_of_none (kT _ _ eD (by simp)) hc').symm
      have fc : H7 c' = none := by
        cases e : H7 c' with
        | none => rfl
        | some o =>
          by_cases c : c' = s.hd
          · rw [c, kT _ _ e3 (by simp)] at hc'; cases hc'
          · rw [kT _ _ (k3 _ _ e c) (by simp)] at hc'; cases hc'
      have lZ : Z.length = i := by
        have := congrArg List.length eZ
        rw [List.length_map, List.length_take] at this; omega
      have hlen : s.here.length ≤ 2000 := by
        have h1 : s.here.length ≤ s.used := szs_len fun r hr => (pl.sz r (List.mem_filter.mp hr).1).1
        have := pl.tp; have := pl.tm; have := pl.mo
        omega
      have kD : ∀ b o, H6 b = some o → b ≠ D → upd H6 D (.lst ((Z.map fun z => V.ref z.p) ++ [.ref p'])) b = some o := fun b o eb nb => (upd_ne nb).trans eb
      have nDd : D ≠ s.hd := nD
      refine ⟨_, eD6, (by rw [List.length_map, lZ]; exact Nat.lt_of_le_of_lt (m := 2000) (by omega) (by decide)), fun b o eb hb => kD b o (k46 b o (k3 b o eb hb) (by simp)) (ne_of_none eb hD7), kD _ _ (k46 _ _ e3 (by simp)) nDd.symm, Z ++ [⟨p', q', c', r⟩], ?_, ?_, fun z hz => ?_, ?_⟩
      · rw [List.map_append, eZ, List.take_succ, hr2]; rfl
      · rw [upd_same, List.map_append]; rfl
      · rcases List.mem_append.mp hz with y | y
        · obtain ⟨a1, a2, a3, a4, a5⟩ := hZ z y
          exact ⟨kD _ _ (k46 _ _ a1 (by simp)) (ne_of (k46 _ _ a1 (by simp)) eD6 (fun c => by cases c)), kD _ _ (k46 _ _ a2 (by simp)) (ne_of (k46 _ _ a2 (by simp)) eD6 (fun c => by cases c)), kD _ _ (k46 _ _ a3 (by simp)) a5, a4, a5⟩
        · rw [List.mem_singleton] at y
          subst y
          have hq6 := k46 _ _ hq' (by simp)
          exact ⟨kD _ _ eP (ne_of eP eD6 (fun c => by cases c)), kD _ _ hq6 (ne_of hq6 eD6 (fun c => by cases c)), kD _ _ (kP _ _ eC (by simp)) nc, fc, nc⟩
      · rw [List.map_append]
        refine List.nodup_append.mpr ⟨nZ, (by simp), fun a ha b hb => ?_⟩
        obtain ⟨z, hz, rfl⟩ := List.mem_map.mp ha
        have hb2 : b = c' := by simpa using hb
        rw [hb2]
        exact ne_of_none (kT _ _ (hZ z hz).2.2.1 (by simp)) hc'
    · rintro H8 ⟨k8, e8, Z, eZ, eD, hZ, nZ⟩
      have hn : (hdL s.here).length = s.here.length := by simp [hdL]
      rw [hn, List.take_length] at eZ
      have kR : ∀ b o, H8 b = some o → b ≠ s.hd → upd H8 s.hd (.dT (hdL s.here)) b = some o := fun b o eb nb => (upd_ne nb).trans eb
      have eRd : upd H8 s.hd (.dT (hdL s.here)) s.hd = some (.dT (hdL s.here)) := upd_same
      refine ⟨e8, D, Z.map TwC.pr, rfl, ?_, fun y hy => ?_, ?_, fun hd hhd => ?_⟩
      · rw [List.map_map]; exact SqL.of (kR _ _ eD nD)
      · obtain ⟨z, hz, rfl⟩ := List.mem_map.mp hy
        obtain ⟨a1, a2, a3, a4, a5⟩ := hZ z hz
        exact ⟨kR _ _ a1 (ne_of a1 e8 (fun c => by cases c)), kR _ _ a2 (ne_of a2 e8 (fun c => by cases c))⟩
      · rw [List.map_map]
        have z1 : (s.here.map Rm.key).Nodup := pl.kkn (here_sub s)
        rw [← eZ, List.map_map] at z1
        exact z1
      have ekv : (Z.map TwC.pr).map (fun t => (t.k, t.v)) = hdL (Z.map TwC.nr) := by
        unfold hdL
        rw [List.map_map, List.map_map]; rfl
      rw [ekv]
      have k7R : Kp [] H7 (upd H8 s.hd (.dT (hdL s.here))) := fun b o eb _ => by
        by_cases c : b = s.hd
        · rw [c, upd_same, ← ehd, ← c, eb]
        · exact kR b o (k8 b o eb c) c
      have hZR : ∀ z ∈ Z, upd H8 s.hd (.dT (hdL s.here)) z.c = some (.lst z.r.cells) := fun z hz => kR _ _ (hZ z hz).2.2.1 (ne_of (hZ z hz).2.2.1 e8 (fun c => by cases c))
      generalize upd H8 s.hd (.dT (hdL s.here)) = HR at *
      have eqR := k7R _ _ eq7 (by simp)
      have nhd : hd ≠ q := (ne_of_none eqR hhd).symm
      have nsh : sd ≠ hd := ne_of_none (k7R _ _ vsd (by simp)) hhd
      refine ⟨_, rfl, q, CH K, dq', f6, rfl, (upd_ne nhd.symm).trans eqR, T.c_House, T.n_House_held, (by have := g7.n; show List.length _ < 1000; omega), ?_⟩
      have fr_hd : H hd = none := (K7.trans k7R).fr hhd
      have K8 : Kp [] H (upd (upd HR hd (.dT (hdL (Z.map TwC.nr)))) q (.ins (CH K) dq' (putF "held" (.ref hd) f6))) := fun b o eb _ => (upd_ne (ne_of_none eb hq)).trans ((upd_ne (ne_of_none eb fr_hd)).trans ((K7.trans k7R) b o eb (by simp)))
      have eq8 : upd (upd HR hd (.dT (hdL (Z.map TwC.nr)))) q (.ins (CH K) dq' (putF "held" (.ref hd) f6)) q = some (.ins (CH K) dq' (putF "held" (.ref hd) f6)) := upd_same
      have up8 : ∀ {b o}, HR b = some o → b ≠ q → upd (upd HR hd (.dT (hdL (Z.map TwC.nr)))) q (.ins (CH K) dq' (putF "held" (.ref hd) f6)) b = some o := fun eb nb => (upd_ne nb).trans ((upd_ne (ne_of_none eb hhd)).trans eb)
      have vhd : upd (upd HR hd (.dT (hdL (Z.map TwC.nr)))) q (.ins (CH K) dq' (putF "held" (.ref hd) f6)) hd = some (.dT (hdL (Z.map TwC.nr))) := (upd_ne nhd).trans upd_same
      have g8 := g7.put (f := "held") (by decide +kernel) (.ref hd)
      have wh := up8 (k7R _ _ vh (by simp)) nh
      have wt := up8 (k7R _ _ vt (by simp)) nt
      have wgd := up8 (k7R _ _ vgd (by simp)) ngd
      have wfd := up8 (k7R _ _ vfd (by simp)) nfd
      have wsd := up8 (k7R _ _ vsd (by simp)) nsd
      have wZ : ∀ z ∈ Z, upd (upd HR hd (.dT (hdL (Z.map TwC.nr)))) q (.ins (CH K) dq' (putF "held" (.ref hd) f6)) z.c = some (.lst z.r.cells) := fun z hz => up8 (hZR z hz) (ne_of (hZR z hz) eqR (fun c => by cases c))
      have nhZ : ∀ a o, H7 a = some o → a ∉ Z.map (·.c) := fun a o ea z => by
        obtain ⟨y, hy, rfl⟩ := List.mem_map.mp z
        rw [(hZ y hy).2.2.2.1] at ea; cases ea
      generalize upd (upd HR hd (.dT (hdL (Z.map TwC.nr)))) q (.ins (CH K) dq' (putF "held" (.ref hd) f6)) = H9 at *
      have e77 : putF "held" (.ref hd) f6 = tw7 fq h t gd fd sd hd s.top := by rw [xf6, xf5, xf4, xf3, xf2, xf1]; rfl
      rw [e77] at eq8 g8
      obtain ⟨ffN, hfN⟩ := tw7_ok (s := s) (q := q) (Z := Z) fqF hqF g8 rfl
      have gsA : ∀ a ∈ s.gs.map (·.2), ∃ o, H a = some o := fun a ha => by
        obtain ⟨y, hy, rfl⟩ := List.mem_map.mp ha
        exact ⟨_, ho.gl y hy⟩
      have plN : HPl (s.twin q h t gd fd sd hd Z) := tw_pl pl eZ nZ (fun a ha => by
          obtain ⟨o, eo⟩ := gsA a ha
          exact nhZ a o (K7 a o eo (by simp))) (fun z => by
          rcases List.mem_append.mp z with z | z
          · obtain ⟨o, eo⟩ := gsA h z; rw [fr_h] at eo; cases eo
          · exact nhZ h _ vh z) (fun z => by
          rcases List.mem_append.mp z with z | z
          · obtain ⟨o, eo⟩ := gsA t z; rw [fr_t] at eo; cases eo
          · exact nhZ t _ vt z) ngf nsh
      refine ⟨_, rfl, fin q h t gd fd sd hd Z H9 (fun a ha => ?_) eZ K8 ⟨⟨dq', _, eq8, ffN, hfN⟩, wh, wt, ?_, ho.wf, ?_, ?_, ?_, ?_, fun y hy => ?_, fun r hr => ?_, fun r hr => ?_, fun r hr v hv => ?_, plN⟩⟩
      · rcases List.mem_append.mp ha with z | z
        · simp only [List.mem_cons, List.not_mem_nil, or_false] at z
          rcases z with rfl | rfl | rfl | rfl | rfl | rfl | rfl
          · exact hq
          · exact fr_h
          · exact fr_t
          · exact fr_gd
          · exact fr_fd
          · exact fr_sd
          · exact fr_hd
        · obtain ⟨y, hy, rfl⟩ := List.mem_map.mp z
          exact K7.fr (hZ y hy).2.2.2.1
      · exact nht
      · exact wgd
      · have e5 : (s.twin q h t gd fd sd hd Z).fdL = s.fdL := List.map_congr_left fun y _ => by rw [tw_fill]
        rw [e5]; exact wfd
      · have e5 : (s.twin q h t gd fd sd hd Z).sdL = s.sdL := by
          show (s.rs.map (reC Z)).map _ = _
          rw [List.map_map]
          refine List.map_congr_left fun r _ => ?_
          have z := (reC_rho Z r).1
          have f0 : (reC Z r).f = r.f := congrArg Prod.fst z
          have o0 : (reC Z r).o = r.o := congrArg (fun z => z.2.1) z
          have c0 : (reC Z r).cells = r.cells := congrArg (fun z => z.2.2) z
          show ((reC Z r).key, V.int ((reC Z r).cells.length : Int)) = _
          unfold Rm.key
          rw [f0, o0, c0]
        rw [e5]; exact wsd
      · rw [tw_here pl eZ]; exact vhd
      · have z := K8 _ _ (ho.gl y hy) (by simp)
        have e5 : ((s.twin q h t gd fd sd hd Z).giv y.1).map (fun r => V.ref r.w) = (s.giv y.1).map fun r => V.ref r.w := by
          have z2 := congrArg (List.map V.ref) (tw_giv (s := s) (q := q) (h := h) (t := t) (gd := gd) (fd := fd) (sd := sd) (hd := hd) (Z := Z) y.1)
          rw [List.map_map, List.map_map] at z2; exact z2
        rw [e5]; exact z
      · rw [tw_here pl eZ] at hr
        obtain ⟨z, hz, rfl⟩ := List.mem_map.mp hr
        exact wZ z hz
      · obtain ⟨r0, h0, f0, o0, c0, w0⟩ := tw_mem hr
        rw [f0, o0, w0]; exact K8 _ _ (ho.wl r0 h0) (by simp)
      · rw [tw_here pl eZ] at hr
        obtain ⟨z, hz, rfl⟩ := List.mem_map.mp hr
        have hzr : z.r ∈ s.here := by rw [← eZ]; exact List.mem_map.mpr ⟨z, hz, rfl⟩
        rcases ho.vs z.r hzr v hv with y | y | ⟨r1, h1, q1, rfl, e5⟩
        · exact .inl y
        · exact .inr (.inl y)
        · refine .inr (.inr ⟨reC Z r1, List.mem_map.mpr ⟨r1, h1, rfl⟩, q1, rfl, ?_⟩)
          have z := (reC_rho Z r1).1
          have f0 : (reC Z r1).f = r1.f := congrArg Prod.fst z
          have o0 : (reC Z r1).o = r1.o := congrArg (fun z => z.2.1) z
          rw [f0, o0]; exact K8 _ _ e5 (by simp)
end

end Lw
namespace Lw
open PySem PySem.Spec L2 FG
open PyProof.Rows hiding St
/-! ### how many were begun -/
section
variable {P : Program} {w : World} {K : PySem.W.Frag} {mg : Str → Option Value} {base : Heap}
theorem ok_nbegun (T : Tx K mg) {C : Addr} (cC : Cls K C) (nH : NoAttr K C "holders") {fd : FuncData} {f : Addr} (F : Fun K "begun" "Frames.begun" s_House_begun f fd) : FnG P w K mg base 1 f fd ["self"] (spBegun C) := by
  refine FnG.of F sc_House_begun (fun vs H Q E h => ?_) (fun cdv A outer s H vs Q E hr h => ?_)
  · obtain ⟨p, h, t, hs, ts, rfl, _⟩ := h; rfl
  · obtain ⟨p, h, t, hs, ts, rfl, ⟨⟨dx, fs, e, ff⟩, lh, lt, ne, wf⟩, q⟩ := h
    refine ⟨_, pss_one (ps_ret (pe_op op_sub (pe_callB (klen K) (by rfl) T.z_len PySem.boot_len (pa_cons (kfld K (pv 0)) (pa_nil))) (pe_int))), ?_⟩
    refine ⟨_, rfl, p, C, dx, fs, _, rfl, e, cC, nH, ff.hh, h, _, rfl, .inl (SqL.of lh), _, _, rfl, rfl, ?_⟩
    exact rt_of (b := .int ((hs.length : Int) - 1)) (by rw [List.length_map]) q
end

end Lw
namespace Lw
open PySem PySem.Spec L2 FG
open PyProof.Rows hiding St
/-! ### the frame around, and by which one a frame was ended -/
def spInside (C : Addr) : Sp := fun vs H Q _ => ∃ p h t hs ts, ∃ (n : Nat) (o : Option Int), vs = [.ref p, nint n] ∧ FrAt C H p h t hs ts ∧ hs[n]? = some o ∧ Q (enc o) H
section
variable {P : Program} {w : World} {K : PySem.W.Frag} {mg : Str → Option Value} {base : Heap}
theorem ok_inside (T : Tx K mg) {C : Addr} (cC : Cls K C) (nH : NoAttr K C "holders") {fd : FuncData} {f : Addr} (F : Fun K "inside" "Frames.inside" s_House_inside f fd) (m_need_begun : Met P w K mg base 3 C "need_begun" (spBeg C)) : FnG P w K mg base 4 f fd ["self", "frame"] (spInside C) := by
  refine FnG.of F sc_House_inside (fun vs H Q E h => ?_) (fun cdv A outer s H vs Q E hr h => ?_)
  · obtain ⟨p, h, t, hs, ts, n, o, rfl, _⟩ := h; rfl
  · obtain ⟨p, h, t, hs, ts, n, o, rfl, fr, hn, q⟩ := h
    obtain ⟨⟨dx, fs, e, ff⟩, lh, lt, ne, wf⟩ := id fr
    have hl := (List.getElem?_eq_some_iff.mp hn).1
    refine ⟨_, pss_cons (ps_expr (gm m_need_begun (hr.mono (by decide)) takes0 (pv 0) (pa_cons (pv 1) (pa_nil))))
      (pss_one (ps_ret (pe_ix (kixL K) (kfld K (pv 0)) (pv 1) (fun _ _ => rfl)))), ?_⟩
    refine ⟨_, rfl, p, dx, fs, rfl, e, ff.no _ (by decide +kernel), _, rfl, p, h, t, hs, ts, n, rfl, fr, hl, ?_⟩
    exact ⟨_, rfl, p, C, dx, fs, _, rfl, e, cC, nH, ff.hh, _, rfl, h, _, _, _, rfl, rfl, SqL.of lh, get_enc hn, q⟩
theorem ok_byN (T : Tx K mg) {C : Addr} (cC : Cls K C) (nT : NoAttr K C "takers") {fd : FuncData} {f : Addr} (F : Fun K "ended_by" "Frames.ended_by" s_House_ended_by f fd) (m_need_begun : Met P w K mg base 3 C "need_begun" (spBeg C)) : FnG P w K mg base 4 f fd ["self", "frame"] (spBy C) := by
  refine FnG.of F sc_House_ended_by (fun vs H Q E h => ?_) (fun cdv A outer s H vs Q E hr h => ?_)
  · obtain ⟨p, h, t, hs, ts, n, o, rfl, _⟩ := h; rfl
  · obtain ⟨p, h, t, hs, ts, n, o, rfl, fr, hn, q⟩ := h
    obtain ⟨⟨dx, fs, e, ff⟩, lh, lt, ne, wf⟩ := id fr
    have hl := (List.getElem?_eq_some_iff.mp hn).1
    refine ⟨_, pss_cons (ps_expr (gm m_need_begun (hr.mono (by decide)) takes0 (pv 0) (pa_cons (pv 1) (pa_nil))))
      (pss_one (ps_ret (pe_ix (kixL K) (kfld K (pv 0)) (pv 1) (fun _ _ => rfl)))), ?_⟩
    refine ⟨_, rfl, p, dx, fs, rfl, e, ff.no _ (by decide +kernel), _, rfl, p, h, t, hs, ts, n, rfl, fr, wf.len ▸ hl, ?_⟩
    exact ⟨_, rfl, p, C, dx, fs, _, rfl, e, cC, nT, ff.tt, _, rfl, t, _, _, _, rfl, rfl, SqL.of lt, get_enc hn, q⟩
end

end Lw
namespace Lw
open PySem PySem.Spec L2 FG
open PyProof.Rows hiding St
/-! ### the limit, the greatest -/
def spLimit (K : PySem.W.Frag) : Sp := fun vs H Q _ => ∃ s : HSt, vs = [.ref s.p] ∧ HoAt (CH K) H s ∧ Q (nint s.most) H
def spGreatest (K : PySem.W.Frag) : Sp := fun vs H Q _ => ∃ s : HSt, vs = [.ref s.p] ∧ HoAt (CH K) H s ∧ Q (nint s.top) H
section
variable {P : Program} {w : World} {K : PySem.W.Frag} {mg : Str → Option Value} {base : Heap}
theorem ok_limit (T : Tx K mg) {fd : FuncData} {f : Addr} (F : Fun K "limit" "House.limit" s_House_limit f fd) : FnG P w K mg base 1 f fd ["self"] (spLimit K) := by
  refine FnG.of F sc_House_limit (fun vs H Q E h => ?_) (fun cdv A outer sh H vs Q E hr h => ?_)
  · obtain ⟨s, rfl, _⟩ := h; rfl
  · obtain ⟨s, rfl, ho, q⟩ := h
    obtain ⟨dx, fs, e, ff, hf⟩ := ho.ob
    refine ⟨_, pss_one (ps_ret (kfld K (pv 0))), ?_⟩
    exact ⟨_, rfl, s.p, CH K, dx, fs, _, rfl, e, T.c_House, T.n_House_most, hf.most, q⟩
theorem ok_greatest (T : Tx K mg) {fd : FuncData} {f : Addr} (F : Fun K "greatest" "House.greatest" s_House_greatest f fd) : FnG P w K mg base 1 f fd ["self"] (spGreatest K) := by
  refine FnG.of F sc_House_greatest (fun vs H Q E h => ?_) (fun cdv A outer sh H vs Q E hr h => ?_)
  · obtain ⟨s, rfl, _⟩ := h; rfl
  · obtain ⟨s, rfl, ho, q⟩ := h
    obtain ⟨dx, fs, e, ff, hf⟩ := ho.ob
    refine ⟨_, pss_one (ps_ret (kfld K (pv 0))), ?_⟩
    exact ⟨_, rfl, s.p, CH K, dx, fs, _, rfl, e, T.c_House, T.n_House_top, hf.top, q⟩
end

end Lw
namespace Lw
open PySem PySem.Spec L2 FG
open PyProof.Rows hiding St
/-! ### texts of nested data fit -/
theorem shw_listN {K : PySem.W.Frag} {H : Hp} {a : Addr} {xs : List V} {ds : List PyData} (e : H a = some (.lst xs)) (h : DpAll K H xs ds) (ok : okDs ds = true) (hb : PyData.bulkAll ds ≤ 300000) (hd : PyData.depthAll ds ≤ 50) : Shw K H (.ref a) (.list ds) :=
  shw_at (.lst (SqL.of e) h) (by simp only [okD]; exact ok) (by simp only [PyData.bulk]; exact hb) (by simp only [PyData.depth]; omega)
structure OkT (d : PyData) (N M : Nat) : Prop where
  ok : okD d = true
  b : d.bulk ≤ N
  h : d.depth ≤ M
theorem OkT.lst1 {z : Str} {d : PyData} {N M : Nat} (y : OkT d N M) (hz : okD (.str z) = true) (hs : (PyData.str z).bulk ≤ 100) : OkT (.list [.str z, d]) (N + 102) (M + 1) := by
  refine ⟨by simp only [okD, okDs] at hz ⊢; simp only [hz, y.ok, Bool.and_self], ?_, ?_⟩
  · have := y.b
    rw [PyData.bulk]
    simp only [PyData.bulkAll]; omega
  · have := y.h
    rw [PyData.depth]
    simp only [PyData.depthAll, PyData.depth]; omega
theorem OkT.lstN {ds : List PyData} {N M : Nat} (ok : okDs ds = true) (b : PyData.bulkAll ds ≤ N) (h : PyData.depthAll ds ≤ M) : OkT (.list ds) N (M + 1) :=
  ⟨by simp only [okD]; exact ok, by rw [PyData.bulk]; exact b, by rw [PyData.depth]; omega⟩
theorem all_ok {N M : Nat} : ∀ {ds : List PyData}, (∀ d ∈ ds, OkT d N M) → okDs ds = true ∧ PyData.bulkAll ds ≤ (N + 1) * ds.length ∧ PyData.depthAll ds ≤ M
  | [], _ => ⟨by simp only [okDs], by simp only [PyData.bulkAll]; omega, by simp only [PyData.depthAll]; omega⟩
  | d :: ds, h => by
    obtain ⟨a, b, c⟩ := h d (by simp)
    obtain ⟨x, y, z⟩ := all_ok (ds := ds) fun u hu => h u (by simp [hu])
    refine ⟨by simp only [okDs, a, x, Bool.and_self], ?_, ?_⟩
    · simp only [PyData.bulkAll, List.length_cons, Nat.mul_add]; omega
    · simp only [PyData.depthAll]; omega
theorem DpAll.snoc {K : PySem.W.Frag} {H : Hp} {v : V} {d : PyData} (y : Dp K H v d) : ∀ {vs : List V} {ds : List PyData}, DpAll K H vs ds → DpAll K H (vs ++ [v]) (ds ++ [d])
  | _, _, .nil => .cons y .nil
  | _, _, .cons a b => .cons a (DpAll.snoc y b)

end Lw
namespace Lw
open PySem PySem.Spec L2 FG
open PyProof.Rows hiding St
/-! ### small data that may be shown -/
theorem tok_hs {hs ts : List (Option Int)} (w : Wf hs ts) {n : Nat} {i : Int} (h : hs[n]? = some (some i)) : i.natAbs < 1000 := by
  have ws := w.small
  by_cases h0 : n = 0
  · subst h0; rw [w.root] at h; cases h
  · have hl := (List.getElem?_eq_some_iff.mp h).1
    obtain ⟨j, e, hj⟩ := w.up n (by omega) hl
    rw [h] at e
    have : i = (j : Int) := by injection e with e; injection e
    omega
def encD : Option Int → PyData
  | none => .none
  | some i => .int i
theorem dp_enc1 {K : PySem.W.Frag} {H : Hp} (o : Option Int) : Dp K H (enc o) (encD o) := by
  cases o with
  | none => exact .non
  | some i => exact .int i
theorem okT_enc {o : Option Int} (h : ∀ i, o = some i → i.natAbs < 1000) : OkT (encD o) 0 0 := by
  have e38 : (10 : Nat) ^ 38 = 100000000000000000000000000000000000000 := by decide
  cases o with
  | none => exact ⟨by simp only [encD, okD], by simp only [encD, PyData.bulk]; omega, by simp only [encD, PyData.depth]; omega⟩
  | some i => exact ⟨by have := h i rfl; simp only [encD, okD, decide_eq_true_eq, e38]; omega, by simp only [encD, PyData.bulk]; omega, by simp only [encD, PyData.depth]; omega⟩
theorem okT_nat {n : Nat} (h : n < 10000) : OkT (pnint n) 0 0 := by
  have e38 : (10 : Nat) ^ 38 = 100000000000000000000000000000000000000 := by decide
  exact ⟨by simp only [pnint, okD, decide_eq_true_eq, e38]; omega, by simp only [pnint, PyData.bulk]; omega, by simp only [pnint, PyData.depth]; omega⟩
theorem okT_nats {xs : List Nat} {N : Nat} (h : ∀ x ∈ xs, x < 10000) (hl : xs.length ≤ N) : OkT (.list (xs.map pnint)) N 1 := by
  obtain ⟨a, b, c⟩ := all_ok (N := 0) (M := 0) (ds := xs.map pnint) fun d hd => by
    obtain ⟨x, hx, rfl⟩ := List.mem_map.mp hd
    exact okT_nat (h x hx)
  exact OkT.lstN a (by rw [List.length_map] at b; omega) c
theorem OkT.more {d : PyData} {N M N' M' : Nat} (y : OkT d N M) (h : N ≤ N') (g : M ≤ M') : OkT d N' M' := ⟨y.ok, Nat.le_trans y.b h, Nat.le_trans y.h g⟩

end Lw
namespace Lw
open PySem PySem.Spec L2 FG
open PyProof.Rows hiding St
/-! ### the picture -/
def TKq (H H' : Hp) : Prop := ∀ a xs, H a = some (.tup xs) → H' a = some (.tup xs)
theorem Kp.tkq {H H' : Hp} (k : Kp [] H H') : TKq H H' := fun a xs e => k a _ e (by simp)
theorem TKq.trans {H H1 H2 : Hp} (a : TKq H H1) (b : TKq H1 H2) : TKq H H2 := fun c xs e => b c xs (a c xs e)
theorem tkq_upd {H : Hp} {a : Addr} {xs ys : List V} (e : H a = some (.lst xs)) : TKq H (upd H a (.lst ys)) := fun b zs h => (upd_ne (ne_of h e (by intro c; cases c))).trans h
def picR (cd : List V → List PyData) (r : Rm) : PyData := .tuple (cd r.cells)
def picF (s : HSt) (cd : List V → List PyData) (f : Nat) : PyData := .tuple [pnint f, encD (s.hs[f]?.getD none), .tuple ((s.giv f).map (picR cd))]
def picD (s : HSt) (cd : List V → List PyData) : PyData := .tuple [pnint s.most, .tuple ((stand s.ts).map (picF s cd))]
def spPicture (K : PySem.W.Frag) : Sp := fun vs H Q _ => ∃ (s : HSt) (cd : List V → List PyData), vs = [.ref s.p] ∧ HoAt (CH K) H s ∧ s.rs.length ≤ 100000 ∧ (∀ r ∈ s.here, ∀ H', TKq H H' → DpAll K H' r.cells (cd r.cells)) ∧
  ∀ v H', Kp [] H H' → (∀ H'', TKq H' H'' → Dp K H'' v (picD s cd)) → Q v H'
section
variable {P : Program} {w : World} {K : PySem.W.Frag} {mg : Str → Option Value} {base : Heap}
theorem ok_picture (T : Tx K mg) {fd : FuncData} {f : Addr} (F : Fun K "picture" "House.picture" s_House_picture f fd) (m_standing : Met P w K mg base 1 (CH K) "standing" (spStanding (CH K))) (m_rooms : Met P w K mg base 5 (CH K) "rooms" (spRooms K)) : FnG P w K mg base 6 f fd ["self"] (spPicture K) := by
  refine FnG.of F sc_House_picture (fun vs H Q E h => ?_) (fun cdv A outer sh H vs Q E hr h => ?_)
  · obtain ⟨s, cd, rfl, _⟩ := h; rfl
  · obtain ⟨s, cd, rfl, ho, hrl, hcd, q⟩ := h
    obtain ⟨dx, fs, e, ff, hf⟩ := ho.ob
    have wf := ho.wf
    have wl := wf.len
    have ws := wf.small
    refine ⟨_, pss_cons (ps_set (i := 1) sc_House_picture.nd rfl (by first | exact Or.inl rfl | exact Or.inr rfl) (pe_lst (pa_nil)))
      (pss_cons (ps_for (passes_of rfl) rfl (kiL K (gm0 m_standing (hr.mono (by decide)) takes0 (pv 0))) (pg_name (i := 2) sc_House_picture.nd rfl (by first | exact Or.inl rfl | exact Or.inr rfl))
        (pss_cons (ps_setLc (i := 3) (own := [("way", 4)]) (g := gName 4) (tt := tYes) rfl sc_House_picture.nd rfl rfl (sw_true rfl rfl rfl (by decide +kernel)) (kiL K (gm m_rooms (hr.mono (by decide)) takes0 (pv 0) (pa_cons (pv 2) (pa_nil)))) (blkOk_by (own := [("way", 4)]) (N := ["self", "frames", "frame", "rooms", "way"]) (sc := defScope s_House_picture) (by decide +kernel)) (fun _ _ _ _ _ => pg_name (i := 4) sc_House_picture.nd rfl (by first | exact Or.inl rfl | exact Or.inr rfl)) (fun _ _ _ _ _ => by exact pts_nil) (fun _ _ _ _ _ => by exact pe_callTy (ktuple K) (by rfl) T.z_tuple (by decide +kernel) (pa_cons (pe_dget hr.hu (kfld K (pv 0)) (pv 4) (fun _ _ => rfl)) (pa_nil))))
      (pss_one (ps_expr (kbm K PySem.F.plainAttrs_list PySem.F.slot_list_append PySem.F.type_list_append mt_append (pv 1) (pa_cons (pe_tup (pa_cons (pv 2) (pa_cons (pe_ix (kixL K) (kfld K (pv 0)) (pv 2) (fun _ _ => rfl)) (pa_cons (pe_callTy (ktuple K) (by rfl) T.z_tuple (by decide +kernel) (pa_cons (pv 3) (pa_nil))) (pa_nil))))) (pa_nil)))))))
      (pss_one (ps_ret (pe_tup (pa_cons (kfld K (pv 0)) (pa_cons (pe_callTy (ktuple K) (by rfl) T.z_tuple (by decide +kernel) (pa_cons (pv 1) (pa_nil))) (pa_nil))))))), ?_⟩
    refine ⟨(by show 0 ≤ sizeLine; decide), fun lf hlf => ?_⟩
    have k1 := (Kp.refl (S := []) (H := H)).new (o := .lst []) hlf
    have e1 : upd H lf (.lst []) lf = some (.lst []) := upd_same
    generalize upd H lf (.lst []) = H1 at *
    refine ⟨_, rfl, s.p, dx, fs, rfl, k1 _ _ e (by simp), ff.no _ (by decide +kernel), s.p, s.h, s.t, s.hs, s.ts, rfl, (ho.kp0 k1).fr, fun l H2 hl k2 el => ?_⟩
    have k12 := k1.trans k2
    have nl : lf ≠ l := ne_of_none e1 hl
    refine ⟨l, rfl, ⟨_, SqL.of el⟩, for_list (K := K) (a := l) (xs := (stand s.ts).map nint) (fun i σ H' => ∃ v2 v3, σ = [some (.ref s.p), some (.ref lf), v2, v3, none] ∧ Kp [] H H' ∧ H' l = some (.lst ((stand s.ts).map nint)) ∧ ∃ vs : List V, H' lf = some (.lst vs) ∧ vs.length = i ∧ ∀ H'', TKq H' H'' → DpAll K H'' vs (((stand s.ts).take i).map (picF s cd)))
      ⟨_, _, rfl, k12, el, [], k2 _ _ e1 (by simp), rfl, fun H'' _ => .nil⟩ (fun i σ H' _ ⟨_, _, _, _, z, _⟩ => SqL.of z) ?_ ?_⟩
    · rintro i x σ H3 hx ⟨v2, v3, rfl, k3, el3, vs, ef3, vl, dp⟩
      obtain ⟨g, hg, rfl⟩ : ∃ g, (stand s.ts)[i]? = some g ∧ x = nint g := by
        rw [List.getElem?_map] at hx
        cases ek : (stand s.ts)[i]? with
        | none => rw [ek] at hx; cases hx
        | some g => rw [ek] at hx; exact ⟨g, rfl, (Option.some.inj hx).symm⟩
      have hgt : s.ts[g]? = some none := mem_stand.mp (List.mem_of_getElem? hg)
      have hgl : g < s.hs.length := by have := (List.getElem?_eq_some_iff.mp hgt).1; omega
      have hi : i < (stand s.ts).length := (List.getElem?_eq_some_iff.mp hg).1
      have sl := stand_len s.ts
      have ho3 := ho.kp0 k3
      refine ⟨_, rfl, s.p, dx, fs, rfl, k3 _ _ e (by simp), ff.no _ (by decide +kernel), _, rfl, s, g, rfl, ho3, hgt, fun l4 H4 hl4 k4 el4 => ⟨l4, rfl, ⟨_, SqL.of el4⟩, fun D hD => ?_⟩⟩
      have neD : ∀ b o, H4 b = some o → b ≠ D := fun b o eb => ne_of_none eb hD
      have k34 := k3.trans k4
      refine lc_list (K := K) (a := l4) (xs := (s.giv g).map fun r => V.ref r.w) (fun i H5 => Kp [] H4 H5 ∧ ∃ us : List V, H5 D = some (.lst us) ∧ us.length = i ∧ ∀ H'', TKq H5 H'' → DpAll K H'' us (((s.giv g).take i).map (picR cd)))
        ⟨fun b o eb _ => (upd_ne (neD b o eb)).trans eb, [], upd_same, rfl, fun H'' _ => .nil⟩ (fun i H5 _ ⟨k5, _⟩ => SqL.of (k5 _ _ el4 (by simp))) ?_ ?_
      · rintro j y H5 hy ⟨k5, us, eD, ul, du⟩
        obtain ⟨r, hr2, rfl⟩ : ∃ r, (s.giv g)[j]? = some r ∧ y = .ref r.w := by
          rw [List.getElem?_map] at hy
          cases ek : (s.giv g)[j]? with
          | none => rw [ek] at hy; cases hy
          | some r => rw [ek] at hy; exact ⟨r, rfl, (Option.some.inj hy).symm⟩
        have hm := List.mem_of_getElem? hr2
        have hj := (List.getElem?_eq_some_iff.mp hr2).1
        obtain ⟨hrs, hrf⟩ := List.mem_filter.mp hm
        have hrf := of_decide_eq_true hrf
        have hup : s.up r = true := decide_eq_true (hrf ▸ hgt)
        have hh := mem_here hrs hup
        have k35 := k34.trans k5
        have ho5 := ho.kp0 k35
        have gl2 : (s.giv g).length ≤ 100000 := Nat.le_trans (List.length_filter_le _ _) hrl
        refine ⟨rfl, _, rfl, s.p, CH K, dx, fs, _, rfl, k35 _ _ e (by simp), T.c_House, T.n_House_held, hf.hd, _, rfl, s.hd, _, rfl, by rw [← hv_in ho.pl (here_sub s) hh]; exact DGet.t (k := r.key) ho5.hd (ho5.wl r hrs), r.c, _, rfl, .inl ⟨SqL.of (ho5.cl r hh), fun q2 hq2 => ?_⟩⟩
        have k6 := (Kp.refl (S := []) (H := H5)).new (o := .tup r.cells) hq2
        have e6 : upd H5 q2 (.tup r.cells) q2 = some (.tup r.cells) := upd_same
        generalize upd H5 q2 (.tup r.cells) = H6 at *
        have eD6 := k6 _ _ eD (by simp)
        refine ⟨_, eD6, (by rw [ul]; exact Nat.lt_of_le_of_lt (m := 100000) (by omega) (by decide)), fun b o eb _ => (upd_ne (neD b o eb)).trans ((k5.trans k6) b o eb (by simp)), us ++ [.ref q2], upd_same, by rw [List.length_append, ul]; rfl, fun H'' k'' => ?_⟩
        have t6 : TKq H6 H'' := (tkq_upd eD6).trans k''
        rw [List.take_succ, hr2, List.map_append]
        refine DpAll.snoc ?_ (du H'' (k6.tkq.trans t6))
        exact .tup (SqT.of (t6 _ _ e6)) (hcd r hh H'' ((k35.trans k6).tkq.trans t6))
      · rintro H5 ⟨k5, us, eD, ul, du⟩
        have k35 := k34.trans k5
        have ho5 := ho.kp0 k35
        refine ⟨_, rfl, .inl ⟨rfl, _, SqL.of (k5 _ _ (k4 _ _ ef3 (by simp)) (by simp))⟩, _, rfl, _, rfl, s.p, CH K, dx, fs, _, rfl, k35 _ _ e (by simp), T.c_House, T.n_House_holders, ff.hh, _, rfl, s.h, _, _, _, rfl, rfl, SqL.of ho5.lh, get_enc (List.getElem?_eq_getElem hgl), _, rfl, D, _, rfl, .inl ⟨SqL.of eD, fun q2 hq2 => ?_⟩⟩
        have k6 := (Kp.refl (S := []) (H := H5)).new (o := .tup us) hq2
        have e6 : upd H5 q2 (.tup us) q2 = some (.tup us) := upd_same
        generalize upd H5 q2 (.tup us) = H6 at *
        refine ⟨(by show 3 ≤ sizeLine; decide), fun q3 hq3 => ?_⟩
        have k7 := (Kp.refl (S := []) (H := H6)).new (o := .tup [nint g, enc s.hs[g], .ref q2]) hq3
        have e7 : upd H6 q3 (.tup [nint g, enc s.hs[g], .ref q2]) q3 = some (.tup [nint g, enc s.hs[g], .ref q2]) := upd_same
        generalize upd H6 q3 (.tup [nint g, enc s.hs[g], .ref q2]) = H7 at *
        have k47 := (k4.trans k5).trans (k6.trans k7)
        have ef7 := k47 _ _ ef3 (by simp)
        have el7 := k47 _ _ el3 (by simp)
        refine ⟨lf, vs, _, rfl, rfl, ef7, (by rw [vl]; exact Nat.lt_of_le_of_lt (m := 1000) (by omega) (by decide)), _, _, rfl, fun b o eb _ => (upd_ne (ne_of_none eb hlf)).trans ((k3.trans k47) b o eb (by simp)), (upd_ne nl.symm).trans el7, vs ++ [.ref q3], upd_same, by rw [List.length_append, vl]; rfl, fun H'' k'' => ?_⟩
        have t7 : TKq H7 H'' := (tkq_upd ef7).trans k''
        rw [List.take_succ, hg, List.map_append]
        refine DpAll.snoc ?_ (dp H'' (k47.tkq.trans t7))
        have eG : s.hs[g]?.getD none = s.hs[g] := by rw [List.getElem?_eq_getElem hgl]; rfl
        unfold picF
        rw [eG]
        have du2 := du H'' ((k6.trans k7).tkq.trans t7)
        rw [List.take_of_length_le (by rw [List.length_map]; exact Nat.le_refl _)] at du2
        exact .tup (SqT.of (t7 _ _ e7)) (.cons (.int _) (.cons (dp_enc1 _) (.cons (.tup (SqT.of (t7 _ _ (k7 _ _ e6 (by simp)))) du2) .nil)))
    · rintro σ H3 ⟨v2, v3, rfl, k3, el3, vs, ef3, vl, dp⟩
      rw [List.length_map, List.take_length] at dp
      refine ⟨_, rfl, s.p, CH K, dx, fs, _, rfl, k3 _ _ e (by simp), T.c_House, T.n_House_most, hf.most, _, rfl, lf, _, rfl, .inl ⟨SqL.of ef3, fun q2 hq2 => ?_⟩⟩
      have k6 := (Kp.refl (S := []) (H := H3)).new (o := .tup vs) hq2
      have e6 : upd H3 q2 (.tup vs) q2 = some (.tup vs) := upd_same
      generalize upd H3 q2 (.tup vs) = H6 at *
      refine ⟨(by show 2 ≤ sizeLine; decide), fun q3 hq3 => ?_⟩
      have k7 := (Kp.refl (S := []) (H := H6)).new (o := .tup [nint s.most, .ref q2]) hq3
      have e7 : upd H6 q3 (.tup [nint s.most, .ref q2]) q3 = some (.tup [nint s.most, .ref q2]) := upd_same
      refine q _ _ (k3.trans (k6.trans k7)) fun H'' t7 => ?_
      exact .tup (SqT.of (t7 _ _ e7)) (.cons (.int _) (.cons (.tup (SqT.of (t7 _ _ (k7 _ _ e6 (by simp)))) (dp H'' ((k6.trans k7).tkq.trans t7))) .nil))
end

end Lw
namespace Lw
open PySem PySem.Spec L2 FG
open PyProof.Rows hiding St
/-! ### all of the house's methods keep what is said of them -/
structure HoM (P : Program) (w : World) (K : PySem.W.Frag) (mg : Str → Option Value) (base : Heap) : Prop where
  is_number : Cal P w K mg base 1 "is_number" spNumG
  is_wholeG : Cal P w K mg base 2 "is_whole" spWholeG
  is_pair : Cal P w K mg base 2 "is_pair" spPair
  init : Mak P w K mg base 3 "House" (CH K) (spHInit K)
  need_begun : Met P w K mg base 3 (CH K) "need_begun" (spBeg (CH K))
  need_standing : Met P w K mg base 4 (CH K) "need_standing" (spStd (CH K))
  begin_ : Met P w K mg base 5 (CH K) "begin" (spBegin (CH K))
  standing : Met P w K mg base 1 (CH K) "standing" (spStanding (CH K))
  row : Met P w K mg base 4 (CH K) "row" (spRow (CH K))
  finish : Met P w K mg base 5 (CH K) "finish" (spHFin K)
  need_room : Met P w K mg base 3 (CH K) "need_room" (spRoomN K)
  need_cell : Met P w K mg base 4 (CH K) "need_cell" (spCellN K)
  is_value : Met P w K mg base 3 (CH K) "is_value" (spIsVal K)
  get : Met P w K mg base 5 (CH K) "get" (spGet K)
  put : Met P w K mg base 5 (CH K) "put" (spPut K)
  size : Met P w K mg base 4 (CH K) "size" (spSize K)
  cells : Met P w K mg base 4 (CH K) "cells" (spCells K)
  rooms : Met P w K mg base 5 (CH K) "rooms" (spRooms K)
  used : Met P w K mg base 1 (CH K) "used" (spUsed K)
  left : Met P w K mg base 2 (CH K) "left" (spLeft K)
  make : Met P w K mg base 5 (CH K) "make" (spMake K)
  limit : Met P w K mg base 1 (CH K) "limit" (spLimit K)
  greatest : Met P w K mg base 1 (CH K) "greatest" (spGreatest K)
section
variable {P : Program} {w : World} {K : PySem.W.Frag} {mg : Str → Option Value} {base : Heap}
theorem ho_all (T : Tx K mg) : HoM P w K mg base := by
  have c_is_number : Cal P w K mg base 1 "is_number" spNumG := Cal.of T.g_is_number T.F_is_number (fun F => F.binds (ps := ["thing"]) fun _ _ _ _ _ _ us hl => match us, hl with | [_], _ => rfl) (ok_number T)
  have c_is_wholeG : Cal P w K mg base 2 "is_whole" spWholeG := Cal.of T.g_is_whole T.F_is_whole (fun F => F.binds (ps := ["thing", "low", "high"]) fun _ _ _ _ _ _ us hl => match us, hl with | [_, _, _], _ => rfl) fun F => ok_whole T F c_is_number
  have c_is_whole : Cal P w K mg base 2 "is_whole" spWhole := whole_of c_is_wholeG
  have c_is_pair : Cal P w K mg base 2 "is_pair" spPair := Cal.of T.g_is_pair T.F_is_pair (fun F => F.binds (ps := ["thing"]) fun _ _ _ _ _ _ us hl => match us, hl with | [_], _ => rfl) fun F => ok_pair T F c_is_number
  have u_Frames : Unb P w K mg base 1 "Frames" "__init__" (spFInit (CH K)) := Unb.of T.u_Frames___init__ T.g_Frames T.F_Frames___init__ (fun F => F.binds (ps := ["self"]) fun _ _ _ _ _ _ us hl => match us, hl with | [_], _ => rfl) (ok_finit T T.c_House T.n_House_holders T.n_House_takers)
  have k_House : Mak P w K mg base 3 "House" (CH K) (spHInit K) := Mak.of T.k_House T.g_House T.F_House___init__ (fun F => F.binds (ps := ["self", "limit"]) fun _ _ _ _ _ _ us hl => match us, hl with | [_, _], _ => rfl) fun F => ok_hinit T F c_is_whole u_Frames
  have m_need_begun : Met P w K mg base 3 (CH K) "need_begun" (spBeg (CH K)) := Met.of T.c_House T.m_House_need_begun T.F_House_need_begun (fun F => F.binds (ps := ["self", "frame"]) fun _ _ _ _ _ _ us hl => match us, hl with | [_, _], _ => rfl) fun F => ok_begun_ T T.c_House T.n_House_holders T.n_House_takers F c_is_whole (rai_NoFrame T)
  have m_need_standing : Met P w K mg base 4 (CH K) "need_standing" (spStd (CH K)) := Met.of T.c_House T.m_House_need_standing T.F_House_need_standing (fun F => F.binds (ps := ["self", "frame"]) fun _ _ _ _ _ _ us hl => match us, hl with | [_, _], _ => rfl) fun F => ok_std T T.c_House T.n_House_holders T.n_House_takers F m_need_begun (rai_Gone T)
  have m_need_more : Met P w K mg base 3 (CH K) "need_more" (spMore (CH K)) := Met.of T.c_House T.m_House_need_more T.F_House_need_more (fun F => F.binds (ps := ["self"]) fun _ _ _ _ _ _ us hl => match us, hl with | [_], _ => rfl) fun F => ok_more T T.c_House T.n_House_holders T.n_House_takers F (rai_TooMany T)
  have m_begin : Met P w K mg base 5 (CH K) "begin" (spBegin (CH K)) := Met.of T.c_House T.m_House_begin T.F_House_begin (fun F => F.binds (ps := ["self", "frame"]) fun _ _ _ _ _ _ us hl => match us, hl with | [_, _], _ => rfl) fun F => ok_begin T T.c_House T.n_House_holders T.n_House_takers F m_need_standing m_need_more
  have m_standing : Met P w K mg base 1 (CH K) "standing" (spStanding (CH K)) := Met.of T.c_House T.m_House_standing T.F_House_standing (fun F => F.binds (ps := ["self"]) fun _ _ _ _ _ _ us hl => match us, hl with | [_], _ => rfl) (ok_standing T T.c_House T.n_House_holders T.n_House_takers)
  have m_row : Met P w K mg base 4 (CH K) "row" (spRow (CH K)) := Met.of T.c_House T.m_House_row T.F_House_row (fun F => F.binds (ps := ["self", "frame"]) fun _ _ _ _ _ _ us hl => match us, hl with | [_, _], _ => rfl) fun F => ok_row T T.c_House T.n_House_holders T.n_House_takers F m_need_begun
  have m_clear : Met P w K mg base 1 (CH K) "clear" (spHClear K) := Met.of T.c_House T.m_House_clear T.F_House_clear (fun F => F.binds (ps := ["self", "frame"]) fun _ _ _ _ _ _ us hl => match us, hl with | [_, _], _ => rfl) (ok_hclear T)
  have m_finish : Met P w K mg base 5 (CH K) "finish" (spHFin K) := Met.of T.c_House T.m_House_finish T.F_House_finish (fun F => F.binds (ps := ["self", "frame"]) fun _ _ _ _ _ _ us hl => match us, hl with | [_, _], _ => rfl) fun F => ok_hfinish T F m_need_standing m_standing m_row m_clear
  have m_need_room : Met P w K mg base 3 (CH K) "need_room" (spRoomN K) := Met.of T.c_House T.m_House_need_room T.F_House_need_room (fun F => F.binds (ps := ["self", "way"]) fun _ _ _ _ _ _ us hl => match us, hl with | [_, _], _ => rfl) fun F => ok_room T F c_is_pair (rai_NoWay T) (rai_Gone T)
  have m_need_cell : Met P w K mg base 4 (CH K) "need_cell" (spCellN K) := Met.of T.c_House T.m_House_need_cell T.F_House_need_cell (fun F => F.binds (ps := ["self", "way", "k"]) fun _ _ _ _ _ _ us hl => match us, hl with | [_, _, _], _ => rfl) fun F => ok_cellN T F m_need_room c_is_whole (rai_NoCell T)
  have m_is_value : Met P w K mg base 3 (CH K) "is_value" (spIsVal K) := Met.of T.c_House T.m_House_is_value T.F_House_is_value (fun F => F.binds (ps := ["self", "thing"]) fun _ _ _ _ _ _ us hl => match us, hl with | [_, _], _ => rfl) fun F => ok_isval T F c_is_number c_is_pair
  have m_get : Met P w K mg base 5 (CH K) "get" (spGet K) := Met.of T.c_House T.m_House_get T.F_House_get (fun F => F.binds (ps := ["self", "way", "k"]) fun _ _ _ _ _ _ us hl => match us, hl with | [_, _, _], _ => rfl) fun F => ok_get T F m_need_cell
  have m_put : Met P w K mg base 5 (CH K) "put" (spPut K) := Met.of T.c_House T.m_House_put T.F_House_put (fun F => F.binds (ps := ["self", "way", "k", "value"]) fun _ _ _ _ _ _ us hl => match us, hl with | [_, _, _, _], _ => rfl) fun F => ok_put T F m_need_cell m_is_value (rai_NoValue T)
  have m_size : Met P w K mg base 4 (CH K) "size" (spSize K) := Met.of T.c_House T.m_House_size T.F_House_size (fun F => F.binds (ps := ["self", "way"]) fun _ _ _ _ _ _ us hl => match us, hl with | [_, _], _ => rfl) fun F => ok_size T F m_need_room
  have m_cells : Met P w K mg base 4 (CH K) "cells" (spCells K) := Met.of T.c_House T.m_House_cells T.F_House_cells (fun F => F.binds (ps := ["self", "way"]) fun _ _ _ _ _ _ us hl => match us, hl with | [_, _], _ => rfl) fun F => ok_cells T F m_need_room
  have m_rooms : Met P w K mg base 5 (CH K) "rooms" (spRooms K) := Met.of T.c_House T.m_House_rooms T.F_House_rooms (fun F => F.binds (ps := ["self", "frame"]) fun _ _ _ _ _ _ us hl => match us, hl with | [_, _], _ => rfl) fun F => ok_rooms T F m_need_standing
  have m_used : Met P w K mg base 1 (CH K) "used" (spUsed K) := Met.of T.c_House T.m_House_used T.F_House_used (fun F => F.binds (ps := ["self"]) fun _ _ _ _ _ _ us hl => match us, hl with | [_], _ => rfl) (ok_used T)
  have m_left : Met P w K mg base 2 (CH K) "left" (spLeft K) := Met.of T.c_House T.m_House_left T.F_House_left (fun F => F.binds (ps := ["self"]) fun _ _ _ _ _ _ us hl => match us, hl with | [_], _ => rfl) fun F => ok_left T F m_used
  have m_make : Met P w K mg base 5 (CH K) "make" (spMake K) := Met.of T.c_House T.m_House_make T.F_House_make (fun F => F.binds (ps := ["self", "frame", "size"]) fun _ _ _ _ _ _ us hl => match us, hl with | [_, _, _], _ => rfl) fun F => ok_make T F m_need_standing c_is_whole m_left m_used (rai_NoNumber T) (rai_Full T)
  have m_limit : Met P w K mg base 1 (CH K) "limit" (spLimit K) := Met.of T.c_House T.m_House_limit T.F_House_limit (fun F => F.binds (ps := ["self"]) fun _ _ _ _ _ _ us hl => match us, hl with | [_], _ => rfl) (ok_limit T)
  have m_greatest : Met P w K mg base 1 (CH K) "greatest" (spGreatest K) := Met.of T.c_House T.m_House_greatest T.F_House_greatest (fun F => F.binds (ps := ["self"]) fun _ _ _ _ _ _ us hl => match us, hl with | [_], _ => rfl) (ok_greatest T)
  exact {
    is_number := c_is_number,
    is_wholeG := c_is_wholeG,
    is_pair := c_is_pair,
    init := k_House,
    need_begun := m_need_begun,
    need_standing := m_need_standing,
    begin_ := m_begin,
    standing := m_standing,
    row := m_row,
    finish := m_finish,
    need_room := m_need_room,
    need_cell := m_need_cell,
    is_value := m_is_value,
    get := m_get,
    put := m_put,
    size := m_size,
    cells := m_cells,
    rooms := m_rooms,
    used := m_used,
    left := m_left,
    make := m_make,
    limit := m_limit,
    greatest := m_greatest,
  }
end

end Lw
namespace Lw
open PySem PySem.Spec L2 FG
open PyProof.Rows hiding St
theorem LSt.vL (x : LSt) : valV x.kv (Sum.inr ("limit" : Str)) = some (nint x.lim) := by
  unfold LSt.kv
  rw [valV_neg (nk (by decide +kernel)), valV_neg (nk (by decide +kernel))]
  exact valV_pos rfl
theorem LmAt.getL {H : Hp} {x : LSt} (y : LmAt H x) : DGet H x.m (.str "limit") (some (nint x.lim)) := by
  have z := DGet.k (k := Sum.inr ("limit" : Str)) y.d
  rw [x.vL] at z; exact z
/-! ### what may change, and what two houses may share -/
def HSt.own (s : HSt) : List Addr := [s.p, s.h, s.t, s.gd, s.fd, s.sd, s.hd] ++ s.here.map (·.c)
def Hs.own (u : Hs) : List Addr := u.s.own ++ u.x.foot
theorem own_sub {s : HSt} : ∀ a ∈ s.own, a ∈ s.foot := fun a h => by
  rcases List.mem_append.mp h with z | z
  · exact List.mem_append_left _ (List.mem_append_left _ z)
  · exact List.mem_append_right _ z
theorem Hs.own_foot {u : Hs} : ∀ a ∈ u.own, a ∈ u.foot := fun a h => by
  rcases List.mem_append.mp h with z | z
  · exact List.mem_append_left _ (own_sub a z)
  · exact List.mem_append_right _ z
theorem ownS (s : HSt) : ∀ a, a ∈ [s.p, s.h, s.t, s.gd, s.fd, s.sd, s.hd] → a ∈ s.own := fun a h => List.mem_append_left _ h
/-- as Grow, and what may change stays so -/
def Gro (H : Hp) (s : HSt) (x : LSt) (s' : HSt) (x' : LSt) : Prop := Grow H s x s' x' ∧ ∀ a, a ∈ s'.own ∨ a ∈ x'.foot → a ∈ s.own ∨ a ∈ x.foot ∨ H a = none
theorem ended_own {s : HSt} {ks : List Nat} {f : Nat} : ∀ a ∈ (s.withF s.hs (taken s.ts ks f)).own, a ∈ s.own := by
  intro a ha
  rcases List.mem_append.mp ha with h | h
  · exact List.mem_append_left _ h
  · refine List.mem_append_right _ ?_
    obtain ⟨r, hr, e⟩ := List.mem_map.mp h
    obtain ⟨h1, h2⟩ := List.mem_filter.mp hr
    exact List.mem_map.mpr ⟨r, mem_here h1 (decide_eq_true (taken_up ks s.ts r.f (of_decide_eq_true h2))), e⟩
theorem begun_own {s : HSt} (x : HPl s) (wl : s.ts.length = s.hs.length) (hs : List (Option Int)) : (s.withF hs (s.ts ++ [none])).own = s.own := by
  unfold HSt.own
  rw [begun_here x wl hs]; rfl
theorem made_own {s : HSt} {f k : Nat} {a c w : Addr} (h : s.ts[f]? = some none) : ∀ b ∈ (s.made f k a c w).own, b ∈ s.own ∨ b = c := by
  intro b hb
  unfold HSt.own at hb
  rw [made_here h, List.map_append] at hb
  rcases List.mem_append.mp hb with z | z
  · exact .inl (List.mem_append_left _ z)
  · rcases List.mem_append.mp z with z | z
    · exact .inl (List.mem_append_right _ z)
    · exact .inr (by simpa using z)
theorem set_own (s : HSt) (f o k : Nat) (v : V) : (s.setc f o k v).own = s.own := by
  have e : ((s.setc f o k v).here.map fun z : Rm => z.c) = s.here.map fun z : Rm => z.c := by
    rw [set_here]; exact map_set (fun z : Rm => z.c) f o k v (fun z => (setR_eq f o k v z).2.2.1) s.here
  unfold HSt.own
  rw [e]; rfl
section
variable {K : PySem.W.Frag} {H H5 H6 : Hp} {s : HSt} {x : LSt} {f : Nat}
theorem HM.finishO (y : HM K H s x) (hf0 : 0 < f) (hfl : f < s.ts.length) (k5 : Kp [s.t, s.hd] H H5) (ho5 : HoAt (CH K) H5 (s.withF s.hs (taken s.ts (fin s.hs s.ts f) f))) (k6 : Kp [x.mt] H5 H6) (md6 : ModK H6 x.kv x.m x.mh x.mt s.hs (taken s.ts (fin s.hs s.ts f) f)) :
    HM K H6 (s.withF s.hs (taken s.ts (fin s.hs s.ts f) f)) (x.withF s.hs (taken s.ts (fin s.hs s.ts f) f)) ∧ Kp (s.own ++ x.foot) H H6 ∧ Gro H s x (s.withF s.hs (taken s.ts (fin s.hs s.ts f) f)) (x.withF s.hs (taken s.ts (fin s.hs s.ts f) f)) := by
  obtain ⟨a, _, g⟩ := y.finish2 hf0 hfl k5 ho5 k6 md6
  refine ⟨a, (k5.mono fun a ha => List.mem_append_left _ (ownS s a ?_)).trans (k6.mono fun a ha => List.mem_append_right _ (footX x a ?_)), g, fun a ha => ?_⟩
  · simp only [List.mem_cons, List.not_mem_nil, or_false] at ha ⊢; rcases ha with z | z <;> simp [z]
  · simp only [List.mem_cons, List.not_mem_nil, or_false] at ha ⊢; simp [ha]
  · rcases ha with z | z
    · exact .inl (ended_own a z)
    · exact .inr (.inl z)
theorem HM.beginO (y : HM K H s x) (k5 : Kp [s.h, s.t] H H5) (fr5 : FrAt (CH K) H5 s.p s.h s.t (s.hs ++ [some (f : Int)]) (s.ts ++ [none])) (k6 : Kp [x.mh, x.mt] H5 H6) (md6 : ModK H6 x.kv x.m x.mh x.mt (s.hs ++ [some (f : Int)]) (s.ts ++ [none])) :
    HM K H6 (s.withF (s.hs ++ [some (f : Int)]) (s.ts ++ [none])) (x.withF (s.hs ++ [some (f : Int)]) (s.ts ++ [none])) ∧ Kp (s.own ++ x.foot) H H6 ∧ Gro H s x (s.withF (s.hs ++ [some (f : Int)]) (s.ts ++ [none])) (x.withF (s.hs ++ [some (f : Int)]) (s.ts ++ [none])) := by
  obtain ⟨a, _, g⟩ := y.begin2 k5 fr5 k6 md6
  refine ⟨a, (k5.mono fun a ha => List.mem_append_left _ (ownS s a ?_)).trans (k6.mono fun a ha => List.mem_append_right _ (footX x a ?_)), g, fun a ha => ?_⟩
  · simp only [List.mem_cons, List.not_mem_nil, or_false] at ha ⊢; rcases ha with z | z <;> simp [z]
  · simp only [List.mem_cons, List.not_mem_nil, or_false] at ha ⊢; rcases ha with z | z <;> simp [z]
  · rcases ha with z | z
    · rw [begun_own y.ho.pl y.ho.wf.len] at z; exact .inl z
    · exact .inr (.inl z)
theorem HM.makeO {k t : Nat} {a c w c2 w2 : Addr} (y : HM K H s x) (hup : s.ts[f]? = some none) (ha : H a = none) (hc : H c = none) (k5 : Kp [s.p, s.gd, s.fd, s.sd, s.hd] H H5) (ho5 : HoAt (CH K) H5 (s.made f k a c w)) (hc2 : H5 c2 = none) (k6 : Kp [x.m, x.mw, x.mc] H5 H6) (lm6 : LmAt H6 (x.made f k t c2 w2))
    (ht : t = max x.top (szs x.here + k)) : HM K H6 (s.made f k a c w) (x.made f k t c2 w2) ∧ Kp (s.own ++ x.foot) H H6 ∧ Gro H s x (s.made f k a c w) (x.made f k t c2 w2) := by
  obtain ⟨m, _, g⟩ := y.make2 hup ha hc k5 ho5 hc2 k6 lm6 ht
  refine ⟨m, (k5.mono fun a ha => List.mem_append_left _ (ownS s a ?_)).trans (k6.mono fun a ha => List.mem_append_right _ (footX x a ?_)), g, fun b hb => ?_⟩
  · simp only [List.mem_cons, List.not_mem_nil, or_false] at ha ⊢; rcases ha with z | z | z | z | z <;> simp [z]
  · simp only [List.mem_cons, List.not_mem_nil, or_false] at ha ⊢; rcases ha with z | z | z <;> simp [z]
  · rcases hb with z | z
    · rcases made_own hup b z with z | z
      · exact .inl z
      · exact .inr (.inr (z ▸ hc))
    · rcases made_lfoot b z with z | z
      · exact .inr (.inl z)
      · rcases g.2.2.1 b (.inr (by rw [z]; exact List.mem_append_right _ (List.mem_map.mpr ⟨_, List.mem_append_right _ (List.mem_singleton.mpr rfl), rfl⟩))) with q | q | q
        · obtain ⟨o, e, _⟩ := y.ho.std b q
          by_cases hin : b ∈ [s.p, s.gd, s.fd, s.sd, s.hd]
          · exact .inl (ownS s b (by simp only [List.mem_cons, List.not_mem_nil, or_false] at hin ⊢; rcases hin with z | z | z | z | z <;> simp [z]))
          · have := k5 b o e hin
            rw [z, hc2] at this; cases this
        · exact .inr (.inl q)
        · exact .inr (.inr q)
theorem HM.putO {r p : Rm} {k : Nat} {v : V} (y : HM K H s x) (hr : r ∈ x.ls) (hp : p ∈ s.here) (e1 : p.f = r.f) (e2 : p.o = r.o) (hv : ValM x.ls v) (k5 : Kp [p.c] H H5) (ho5 : HoAt (CH K) H5 (s.setc r.f r.o k v)) (k6 : Kp [r.c] H5 H6) (e6 : H6 r.c = some (.lst (r.cells.set k v))) :
    HM K H6 (s.setc r.f r.o k v) (x.setc r.f r.o k v) ∧ Kp (s.own ++ x.foot) H H6 ∧ Gro H s x (s.setc r.f r.o k v) (x.setc r.f r.o k v) := by
  obtain ⟨m, _, g⟩ := y.put2 hr hp e1 e2 hv k5 ho5 k6 e6
  have crx : r.c ∈ x.foot := List.mem_append_right _ (List.mem_map.mpr ⟨r, hr, rfl⟩)
  have cps : p.c ∈ s.own := List.mem_append_right _ (List.mem_map.mpr ⟨p, hp, rfl⟩)
  refine ⟨m, (k5.mono fun a ha => ?_).trans (k6.mono fun a ha => ?_), g, fun a ha => ?_⟩
  · rw [List.mem_singleton] at ha; rw [ha]; exact List.mem_append_left _ cps
  · rw [List.mem_singleton] at ha; rw [ha]; exact List.mem_append_right _ crx
  · rw [set_own, set_lfoot] at ha
    rcases ha with z | z
    · exact .inl z
    · exact .inr (.inl z)
end

end Lw
namespace Lw
open PySem PySem.Spec L2 FG
open PyProof.Rows hiding St
/-! ### a deed -/
def spDeed (K : PySem.W.Frag) : Sp := fun vs H Q _ => ∃ (s : HSt) (x : LSt) (b : Addr) (n : Int), vs = [.ref b, .ref s.p, .ref x.m] ∧ BoxAt H b n ∧ n < 100000 ∧ HM K H s x ∧ b ∉ s.foot ∧ b ∉ x.foot ∧ s.rs.length ≤ 10000 ∧
  ∀ H' s' x', Kp (b :: (s.own ++ x.foot)) H H' → HM K H' s' x' → Gro H s x s' x' → BoxAt H' b (n + 20) → Q .non H'
section
variable {P : Program} {w : World} {K : PySem.W.Frag} {mg : Str → Option Value} {base : Heap}
theorem ok_deed (T : Tx K mg) {fd : FuncData} (F : Fun K "_law_deed" "_law_deed" s__law_deed (He.ga K "_law_deed") fd) (c__law_take : Cal P w K mg base 1 "_law_take" spTake) (c__law_one : Cal P w K mg base 2 "_law_one" spOneV)
    (c__law_standing : Cal P w K mg base 1 "_law_standing" spLStanding) (c__law_finish : Cal P w K mg base 2 "_law_finish" spLFin) (c__law_begin : Cal P w K mg base 1 "_law_begin" spLBegin) (c__law_here : Cal P w K mg base 1 "_law_here" spLHere) (c__law_used : Cal P w K mg base 1 "_law_used" spLUsed)
    (c__law_make : Cal P w K mg base 2 "_law_make" spLMake) (c__law_value : Cal P w K mg base 3 "_law_value" spLValue) (M : HoM P w K mg base) :
    FnG P w K mg base 6 (He.ga K "_law_deed") fd ["_law_box_here", "_law_house_here", "_law_model"] (spDeed K) := by
  have m_finish := M.finish
  have m_begin := M.begin_
  have m_make := M.make
  have m_put := M.put
  refine FnG.of F sc__law_deed (fun vs H Q E h => ?_) (fun cdv A outer sh H vs Q E hr h => ?_)
  · obtain ⟨s, x, b, n, rfl, _⟩ := h; rfl
  · obtain ⟨s, x, b, n, rfl, hb, hn, hm, nbs, nbx, hl, q⟩ := h
    have wf := hm.ho.wf
    have wl := wf.len
    have ws := wf.small
    have hlx : x.ls.length ≤ 1000000 := by rw [hm.len]; omega
    refine ⟨_, pss_cons (ps_set (i := 3) sc__law_deed.nd rfl (by first | exact Or.inl rfl | exact Or.inr rfl) (gc c__law_take (hr.mono (by decide)) takes0 (pa_cons (pv 0) (pa_cons (pe_int) (pa_nil)))))
      (pss_cons (ps_set (i := 4) sc__law_deed.nd rfl (by first | exact Or.inl rfl | exact Or.inr rfl) (gc c__law_one (hr.mono (by decide)) takes0 (pa_cons (pv 0) (pa_cons (gc c__law_standing (hr.mono (by decide)) takes0 (pa_cons (pv 2) (pa_nil))) (pa_nil)))))
      (pss_cons (ps_set (i := 5) sc__law_deed.nd rfl (by first | exact Or.inl rfl | exact Or.inr rfl) (pe_op op_add (pe_int) (gc c__law_take (hr.mono (by decide)) takes0 (pa_cons (pv 0) (pa_cons (pe_int) (pa_nil))))))
      (pss_one (ps_if (PW.pt (pw_and (pt_cmpR op_eq (pv 3) (pe_int) (by first | exact nomark _ | rfl)) (pw_and1 (pt_cmpR op_gt (pv 4) (pe_int) (by first | exact nomark _ | rfl))))) (pss_cons (ps_expr (gm m_finish (hr.mono (by decide)) takes0 (pv 1) (pa_cons (pv 4) (pa_nil))))
      (pss_one (ps_expr (gc c__law_finish (hr.mono (by decide)) takes0 (pa_cons (pv 2) (pa_cons (pv 4) (pa_nil))))))) (pss_one (ps_if (PW.pt (pw_and (pt_cmpR op_lt (pv 3) (pe_int) (by first | exact nomark _ | rfl)) (pw_and1 (pt_cmpR op_le (pe_callB (klen K) (by rfl) T.z_len PySem.boot_len (pa_cons (pe_dget hr.hu (pv 2) (pe_str) (fun _ _ => rfl)) (pa_nil))) (pe_int) (by first | exact nomark _ | rfl))))) (pss_cons (ps_expr (gm m_begin (hr.mono (by decide)) takes0 (pv 1) (pa_cons (pv 4) (pa_nil))))
      (pss_one (ps_expr (gc c__law_begin (hr.mono (by decide)) takes0 (pa_cons (pv 2) (pa_cons (pv 4) (pa_nil))))))) (pss_one (ps_if (PW.pt (pw_or (pt_cmpR op_lt (pv 3) (pe_int) (by first | exact nomark _ | rfl)) (pw_or1 (pt_cmpR (keqE K hr.r.units) (gc c__law_here (hr.mono (by decide)) takes0 (pa_cons (pv 2) (pa_nil))) (pe_lst (pa_nil)) (by first | exact nomark _ | rfl))))) (pss_one (ps_if (pt_cmpR op_le (pv 5) (pe_op op_sub (pe_dget hr.hu (pv 2) (pe_str) (fun _ _ => rfl)) (gc c__law_used (hr.mono (by decide)) takes0 (pa_cons (pv 2) (pa_nil)))) (by first | exact nomark _ | rfl)) (pss_cons (ps_expr (gm m_make (hr.mono (by decide)) takes0 (pv 1) (pa_cons (pv 4) (pa_cons (pv 5) (pa_nil)))))
      (pss_one (ps_expr (gc c__law_make (hr.mono (by decide)) takes0 (pa_cons (pv 2) (pa_cons (pv 4) (pa_cons (pv 5) (pa_nil)))))))) (pss_nil))) (pss_cons (ps_set (i := 6) sc__law_deed.nd rfl (by first | exact Or.inl rfl | exact Or.inr rfl) (gc c__law_one (hr.mono (by decide)) takes0 (pa_cons (pv 0) (pa_cons (gc c__law_here (hr.mono (by decide)) takes0 (pa_cons (pv 2) (pa_nil))) (pa_nil)))))
      (pss_cons (ps_set (i := 7) sc__law_deed.nd rfl (by first | exact Or.inl rfl | exact Or.inr rfl) (gc c__law_take (hr.mono (by decide)) takes0 (pa_cons (pv 0) (pa_cons (pe_callB (klen K) (by rfl) T.z_len PySem.boot_len (pa_cons (pe_dget hr.hu (pe_dget hr.hu (pv 2) (pe_str) (fun _ _ => rfl)) (pv 6) (fun _ _ => rfl)) (pa_nil))) (pa_nil)))))
      (pss_cons (ps_set (i := 8) sc__law_deed.nd rfl (by first | exact Or.inl rfl | exact Or.inr rfl) (gc c__law_value (hr.mono (by decide)) takes0 (pa_cons (pv 0) (pa_cons (pv 2) (pa_nil)))))
      (pss_cons (ps_expr (gm m_put (hr.mono (by decide)) takes0 (pv 1) (pa_cons (pv 6) (pa_cons (pv 7) (pa_cons (pv 8) (pa_nil))))))
      (pss_one (ps_asg (pv 8) (pg_sub (pe_dget hr.hu (pe_dget hr.hu (pv 2) (pe_str) (fun _ _ => rfl)) (pv 6) (fun _ _ => rfl)) (pv 7) set_list))))))))))))))), ?_⟩
    refine ⟨_, rfl, b, n, 9, rfl, hb, by omega, by decide, by decide, fun H1 act k1 b1 _ _ => ?_⟩
    have m1 := hm.kpb k1.kp hb nbs nbx
    refine ⟨_, rfl, _, rfl, x.kv, x.m, x.mh, x.mt, s.hs, s.ts, rfl, m1.md, by omega, fun l H2 hl2 k2 el2 => ?_⟩
    have b2 := b1.kp k2 (by simp)
    have m2 := m1.kp0 k2
    have nbl : b ≠ l := (b1.ne hl2).symm
    have ne0 : stand s.ts ≠ [] := fun c => by have := mem_stand.mpr hm.gr; rw [c] at this; cases this
    have sl := stand_len s.ts
    refine ⟨b, l, n + 1, _, rfl, b2, by omega, el2, nbl, fun z => ne0 (List.map_eq_nil_iff.mp z), (by rw [List.length_map]; omega), fun H3 v hv k3 b3 => ?_⟩
    obtain ⟨f, hf, rfl⟩ := List.mem_map.mp hv
    have hup := mem_stand.mp hf
    have hfl : f < s.ts.length := stand_lt hf
    have m3 := m2.kpb k3 b2 nbs nbx
    refine ⟨_, rfl, b, n + 1 + 2, 6, rfl, b3, by omega, by decide, by decide, fun H4 d k4 b4 d0 d1 => ⟨_, _, rfl, rfl, ?_⟩⟩
    have m4 := m3.kpb k4.kp b3 nbs nbx
    have K4 : Kp [b] H H4 := ((k1.kp.trans (k2.mono (by simp))).trans k3).trans k4.kp
    have b4' : BoxAt H4 b (n + 5) := b4.more (by omega)
    obtain ⟨k, hk, hk1, hk6⟩ : ∃ k : Nat, 1 + d = (k : Int) ∧ 1 ≤ k ∧ k ≤ 6 := ⟨(1 + d).toNat, by omega, by omega, by omega⟩
    obtain ⟨dx, fs, e4, ff, _⟩ := m4.ho.ob
    -- a step of both behind a heap that is but for the box as ahead
    have fin : ∀ {H5 H' : Hp} {s' : HSt} {x' : LSt} {n' : Int}, Kp [b] H H5 → BoxAt H5 b n' → n' ≤ n + 20 → Kp (s.own ++ x.foot) H5 H' → HM K H' s' x' → Gro H5 s x s' x' → Q .non H' := fun {H5 H' s' x' n'} K5 b5 hn' k m g => by
      obtain ⟨g, g5⟩ := g
      have nbo : b ∉ s.own := fun z => nbs (own_sub b z)
      have fr : ∀ {a}, H5 a = none → H a = none := fun {a} z => fresh_F K5 (fun c hc => by
        rw [List.mem_singleton] at hc
        obtain ⟨_, _, _, e2, _⟩ := b5
        exact ⟨_, hc ▸ e2⟩) z
      refine q H' s' x' ((K5.mono (by simp)).trans (k.mono fun a ha => List.mem_cons_of_mem _ ha)) m ⟨⟨g.1, g.2.1, fun a ha => ?_, g.2.2.2⟩, fun a ha => ?_⟩ ((b5.more hn').kp k (by simp [nbo, nbx]))
      · rcases g.2.2.1 a ha with z | z | z
        · exact .inl z
        · exact .inr (.inl z)
        · exact .inr (.inr (fr z))
      · rcases g5 a ha with z | z | z
        · exact .inl z
        · exact .inr (.inl z)
        · exact .inr (.inr (fr z))
    refine ⟨_, rfl, rfl, _, rfl, ?_⟩
    refine and_if (d := decide ((0 : Int) < (f : Int))) (fun z => ⟨_, rfl, _, _, rfl, rfl, _, rfl, z⟩) (fun hc hd => ?_) (fun hcd => ?_)
    · have hf0 : 0 < f := by have := of_decide_eq_true hd; omega
      refine ⟨_, rfl, s.p, dx, fs, rfl, e4, ff.no _ (by decide +kernel), _, rfl, s, f, rfl, m4.ho, hup, hf0, fun l7 H7 hl7 k7 ho7 el7 => ?_⟩
      refine ⟨_, rfl, _, rfl, x.kv, x.m, x.mh, x.mt, s.hs, s.ts, f, rfl, m4.mdS k7 (fun a ha => by simp only [List.mem_cons, List.not_mem_nil, or_false] at ha ⊢; rcases ha with z | z <;> simp [z]), wf, fun l8 H8 hl8 k8 md8 el8 => ?_⟩
      obtain ⟨mm, kk, gg⟩ := m4.finishO hf0 hfl k7 ho7 k8 md8
      exact fin K4 b4' (by omega) kk mm gg
    refine ⟨_, rfl, _, _, rfl, rfl, _, rfl, ?_⟩
    refine and_if (d := decide (((s.hs.map enc).length : Int) ≤ 100)) (fun z => ⟨_, rfl, x.m, _, rfl, m4.md.getH, x.mh, _, rfl, .inl (SqL.of m4.md.lh), _, _, rfl, rfl, _, rfl, z⟩) (fun hc hd => ?_) (fun hcd => ?_)
    · have h100 : s.hs.length ≤ 100 := by
        have z := of_decide_eq_true hd
        rw [List.length_map] at z; omega
      refine ⟨_, rfl, s.p, dx, fs, rfl, e4, ff.no _ (by decide +kernel), _, rfl, s.p, s.h, s.t, s.hs, s.ts, f, rfl, m4.ho.fr, hup, h100, fun H7 k7 fr7 => ?_⟩
      refine ⟨_, rfl, _, rfl, x.kv, x.m, x.mh, x.mt, s.hs, s.ts, f, rfl, m4.mdS k7 (fun a ha => by simp only [List.mem_cons, List.not_mem_nil, or_false] at ha ⊢; rcases ha with z | z <;> simp [z]), by omega, by omega, fun H8 k8 md8 => ?_⟩
      obtain ⟨mm, kk, gg⟩ := m4.beginO k7 fr7 k8 md8
      exact fin K4 b4' (by omega) kk mm gg
    refine ⟨_, rfl, _, _, rfl, rfl, _, rfl, ?_⟩
    by_cases c6 : act < 6
    rotate_left
    rw [decide_eq_false c6]
    refine iteF ⟨_, rfl, x, rfl, m4.lm, hlx, hm.lt, fun l5 H5 hl5 k5 el5 => ⟨(by show 0 ≤ sizeLine; decide), fun l6 hl6 => ⟨l5, l6, _, rfl, rfl, SqL.of ((upd_ne (ne_of_none el5 hl6)).trans el5), SqL.of upd_same, _, rfl, ?_⟩⟩⟩
    have k6 := k5.new (o := .lst []) hl6
    have m6 := m4.kp0 k6
    have b6 := b4'.kp k6 (by simp)
    have K6 : Kp [b] H _ := K4.trans (k6.mono (by simp))
    generalize L2.upd H5 l6 (.lst []) = H6 at *
    cases ch : x.here
    rotate_left
    rename_i r0 t0
    rw [← ch]
    have e0 : (x.here.map fun r => V.ref r.w).isEmpty = false := by rw [ch]; rfl
    rw [e0]
    have hne : x.here ≠ [] := by rw [ch]; intro z; cases z
    clear ch
    refine iteF ⟨_, rfl, _, rfl, x, rfl, m6.lm, hlx, hm.lt, fun l7 H7 hl7 k7 el7 => ?_⟩
    have b7 := b6.kp k7 (by simp)
    have m7 := m6.kp0 k7
    have nbl7 : b ≠ l7 := (b6.ne hl7).symm
    have hle : x.here.length ≤ x.ls.length := List.length_filter_le _ _
    refine ⟨b, l7, n + 5, _, rfl, b7, by omega, el7, nbl7, fun z => hne (List.map_eq_nil_iff.mp z), by rw [List.length_map]; omega, fun H8 v hv k8 b8 => ?_⟩
    obtain ⟨r, hr2, rfl⟩ := List.mem_map.mp hv
    have hrx : r ∈ x.ls := (List.mem_filter.mp hr2).1
    have hru : x.up r = true := (List.mem_filter.mp hr2).2
    have m8 := m7.kpb k8 b7 nbs nbx
    have K8 : Kp [b] H H8 := (K6.trans (k7.mono (by simp))).trans k8
    have sz := hm.sz hrx
    refine ⟨_, rfl, _, rfl, x.m, _, rfl, m8.lm.getC, _, rfl, x.mc, _, rfl, m8.lm.getR hrx (m8.lm.wl r hrx), r.c, _, rfl, .inl (SqL.of (m8.lm.cl r hrx)), b, n + 5 + 2, (r.cells.length : Int), rfl, b8, by omega, by omega, (Int.lt_of_le_of_lt (by omega : (r.cells.length : Int) ≤ 6) (by decide)), fun H9 kz k9 b9 kz0 kz1 => ?_⟩
    have m9 := m8.kpb k9.kp b8 nbs nbx
    obtain ⟨kk, rfl⟩ : ∃ kk : Nat, kz = (kk : Int) := ⟨kz.toNat, by omega⟩
    have hkk : kk < r.cells.length := by omega
    refine ⟨_, rfl, _, rfl, x, b, n + 5 + 2 + 1, rfl, b9, by omega, m9.lm, nbx, hlx, fun H10 v hv k10 b10 => ?_⟩
    have m10 := m9.kpb k10 b9 nbs nbx
    have K10 : Kp [b] H H10 := (K8.trans k9.kp).trans k10
    obtain ⟨dx0, fs0, e10, ff0, _⟩ := m10.ho.ob
    have vk := m10.vok hv
    refine ⟨_, rfl, s.p, dx0, fs0, rfl, e10, ff0.no _ (by decide +kernel), _, rfl, _, rfl, _, rfl, s, r.w, r.f, r.o, (kk : Int), v, rfl, m10.ho, m10.lm.wl r hrx, .inl vk, m10.room hrx hru fun p hp e1 e2 e3 H11 k11 => ⟨fun _ => ⟨fun _ H12 k12 ho12 ec12 => ?_, fun q' eq' a' b' h8 no => (vok_no vk k11 eq' h8 no).elim⟩, fun no => absurd ⟨by omega, by rw [e3]; omega⟩ no⟩⟩
    · rw [e1, e2, Int.toNat_natCast] at ho12
      have m11 := m10.kp0 k11
      have cps : p.c ∈ s.foot := List.mem_append_right _ (List.mem_map.mpr ⟨p, hp, rfl⟩)
      have lm12 : LmAt H12 x := m11.lm.kp k12 (fun a ha z => by rw [List.mem_singleton] at ha; rw [ha] at z; exact m11.dj _ cps z) (not_tup m11.ho.std fun a ha => by rw [List.mem_singleton] at ha; rw [ha]; exact cps)
      refine ⟨_, rfl, _, rfl, x.m, _, rfl, lm12.getC, _, rfl, x.mc, _, rfl, lm12.getR hrx (lm12.wl r hrx), _, rfl, r.c, r.cells, (kk : Int), kk, rfl, rfl, lm12.cl r hrx, ?_, ?_⟩
      · unfold ixN
        rw [if_pos (by omega), if_pos (by omega)]; rfl
      obtain ⟨mm, kk2, gg⟩ := m11.putO hrx hp e1 e2 hv k12 ho12 (H6 := L2.upd H12 r.c (.lst (r.cells.set kk v))) (fun b' o e hb' => (upd_ne (by simpa using hb')).trans e) upd_same
      exact fin (K10.trans (k11.mono (by simp))) (b10.kp k11 (by simp)) (by omega) kk2 mm gg
    rw [decide_eq_true c6]
    refine iteT (iteT ?_)
    obtain ⟨H6, eH6⟩ : ∃ H6, H6 = H4 := ⟨_, rfl⟩
    rw [← eH6]
    have m6 : HM K H6 s x := by rw [eH6]; exact m4
    have b6 : BoxAt H6 b (n + 5) := by rw [eH6]; exact b4'
    have K6 : Kp [b] H H6 := by rw [eH6]; exact K4
    rotate_left
    rw [List.map_nil]
    refine iteT ?_
    all_goals
      refine ⟨_, rfl, _, rfl, x.m, _, rfl, m6.lm.getL, _, rfl, x, rfl, m6.lm, hlx, hm.lt, fun H7 k7 => ⟨_, _, rfl, rfl, _, _, rfl, rfl, _, rfl, ite2 (fun z => ?_) (fun z => ?_)⟩⟩
      all_goals
        have m7 := m6.kp0 k7
        have b7 := b6.kp k7 (by simp)
        have K7 : Kp [b] H H7 := K6.trans (k7.mono (by simp))
        have hu := hm.eUsed
      rotate_left
      · exact fin K7 b7 (by omega) Kp.refl m7 ⟨⟨rfl, rfl, fun a ha => by rcases ha with z | z; exact .inl z; exact .inr (.inl z), by omega, rfl⟩, fun a ha => by rcases ha with z | z; exact .inl z; exact .inr (.inl z)⟩
      have hroom : s.used + k ≤ s.most := by
        have z1 : 1 + d ≤ (x.lim : Int) - (szs x.here : Int) := by simpa using z
        have := hm.lim
        omega
      obtain ⟨dx7, fs7, e7, ff7, _⟩ := m7.ho.ob
      refine ⟨_, rfl, s.p, dx7, fs7, rfl, e7, ff7.no _ (by decide +kernel), _, rfl, _, rfl, s, f, k, (by show [V.ref s.p, nint f, V.int (1 + d)] = [V.ref s.p, nint f, V.int (k : Int)]; rw [hk]), m7.ho, hup, hk1, hk6, by omega, (fun _ a c w H8 ha hc hw k8 ho8 => ?_), (fun z => absurd hroom (by omega))⟩
      have lm8 := m7.lmS k8 (fun a' ha' => by simp only [List.mem_cons, List.not_mem_nil, or_false] at ha' ⊢; rcases ha' with z | z | z | z | z <;> simp [z])
      refine ⟨_, rfl, _, rfl, _, rfl, x, f, k, (by show [V.ref x.m, nint f, V.int (1 + d)] = [V.ref x.m, nint f, V.int (k : Int)]; rw [hk]), lm8, (by rw [hm.len]; omega), hm.lt, (by rw [hm.et]; exact hup), hk6, hm.fresh2, fun c2 w2 t H9 hc2 hw2 k9 lm9 ht => ?_⟩
      obtain ⟨mm, kk2, gg⟩ := m7.makeO hup ha hc k8 ho8 hc2 k9 lm9 ht
      exact fin K7 b7 (by omega) kk2 mm gg
end

end Lw
namespace Lw
open PySem PySem.Spec L2 FG
open PyProof.Rows hiding St
/-! ### the law's own picture -/
def lpicF (x : LSt) (cd : List V → List PyData) (f : Nat) : PyData := .tuple [pnint f, encD (x.hs[f]?.getD none), .tuple ((x.giv f).map (picR cd))]
def lpicD (x : LSt) (cd : List V → List PyData) : PyData := .tuple [pnint x.lim, .tuple ((stand x.ts).map (lpicF x cd))]
def spLPicture (K : PySem.W.Frag) : Sp := fun vs H Q _ => ∃ (x : LSt) (cd : List V → List PyData), vs = [.ref x.m] ∧ LmAt H x ∧ x.ls.length ≤ 100000 ∧ Wf x.hs x.ts ∧ (∀ r ∈ x.ls, ∀ H', TKq H H' → DpAll K H' r.cells (cd r.cells)) ∧
  ∀ v H', Kp [] H H' → (∀ H'', TKq H' H'' → Dp K H'' v (lpicD x cd)) → Q v H'
section
variable {P : Program} {w : World} {K : PySem.W.Frag} {mg : Str → Option Value} {base : Heap}
theorem ok_lpicture (T : Tx K mg) {fd : FuncData} (F : Fun K "_law_picture" "_law_picture" s__law_picture (He.ga K "_law_picture") fd) (c__law_standing : Cal P w K mg base 1 "_law_standing" spLStanding) (c__law_given : Cal P w K mg base 1 "_law_given" spLGiven) :
    FnG P w K mg base 3 (He.ga K "_law_picture") fd ["_law_model"] (spLPicture K) := by
  refine FnG.of F sc__law_picture (fun vs H Q E h => ?_) (fun cdv A outer sh H vs Q E hr h => ?_)
  · obtain ⟨x, cd, rfl, _⟩ := h; rfl
  · obtain ⟨x, cd, rfl, y, hl, wf, hcd, q⟩ := h
    have wl := wf.len
    have ws := wf.small
    refine ⟨_, pss_cons (ps_set (i := 1) sc__law_picture.nd rfl (by first | exact Or.inl rfl | exact Or.inr rfl) (pe_lst (pa_nil)))
      (pss_cons (ps_for (passes_of rfl) rfl (kiL K (gc c__law_standing (hr.mono (by decide)) takes0 (pa_cons (pv 0) (pa_nil)))) (pg_name (i := 2) sc__law_picture.nd rfl (by first | exact Or.inl rfl | exact Or.inr rfl))
        (pss_cons (ps_set (i := 3) sc__law_picture.nd rfl (by first | exact Or.inl rfl | exact Or.inr rfl) (pe_callTy (ktuple K) (by rfl) T.z_tuple (by decide +kernel) (pa_cons (pe_lc (own := [("_law_way", 4)]) (g := gName 4) (tt := tYes) rfl sc__law_picture.nd (kiL K (gc c__law_given (hr.mono (by decide)) takes0 (pa_cons (pv 0) (pa_cons (pv 2) (pa_nil))))) (blkOk_by (own := [("_law_way", 4)]) (N := ["_law_model", "_law_frames", "_law_frame", "_law_rooms", "_law_way"]) (sc := defScope s__law_picture) (by decide +kernel)) (fun _ _ _ _ _ => pg_name (i := 4) sc__law_picture.nd rfl (by first | exact Or.inl rfl | exact Or.inr rfl)) (fun _ _ _ _ _ => by exact pts_nil) (fun _ _ _ _ _ => by exact pe_callTy (ktuple K) (by rfl) T.z_tuple (by decide +kernel) (pa_cons (pe_dget hr.hu (pe_dget hr.hu (pv 0) (pe_str) (fun _ _ => rfl)) (pv 4) (fun _ _ => rfl)) (pa_nil)))) (pa_nil))))
      (pss_one (ps_expr (kbm K PySem.F.plainAttrs_list PySem.F.slot_list_append PySem.F.type_list_append mt_append (pv 1) (pa_cons (pe_tup (pa_cons (pv 2) (pa_cons (pe_ix (kixL K) (pe_dget hr.hu (pv 0) (pe_str) (fun _ _ => rfl)) (pv 2) (fun _ _ => rfl)) (pa_cons (pv 3) (pa_nil))))) (pa_nil)))))))
      (pss_one (ps_ret (pe_tup (pa_cons (pe_dget hr.hu (pv 0) (pe_str) (fun _ _ => rfl)) (pa_cons (pe_callTy (ktuple K) (by rfl) T.z_tuple (by decide +kernel) (pa_cons (pv 1) (pa_nil))) (pa_nil))))))), ?_⟩
    refine ⟨(by show 0 ≤ sizeLine; decide), fun lf hlf => ?_⟩
    have k1 := (Kp.refl (S := []) (H := H)).new (o := .lst []) hlf
    have e1 : upd H lf (.lst []) lf = some (.lst []) := upd_same
    generalize upd H lf (.lst []) = H1 at *
    refine ⟨_, rfl, x.kv, x.m, x.mh, x.mt, x.hs, x.ts, rfl, (y.kp0 k1).md, by omega, fun l H2 hl2 k2 el => ?_⟩
    have k12 := k1.trans k2
    have nl : lf ≠ l := ne_of_none e1 hl2
    refine ⟨l, rfl, ⟨_, SqL.of el⟩, for_list (K := K) (a := l) (xs := (stand x.ts).map nint) (fun i σ H' => ∃ v2 v3, σ = [some (.ref x.m), some (.ref lf), v2, v3, none] ∧ Kp [] H H' ∧ H' l = some (.lst ((stand x.ts).map nint)) ∧ ∃ vs : List V, H' lf = some (.lst vs) ∧ vs.length = i ∧ ∀ H'', TKq H' H'' → DpAll K H'' vs (((stand x.ts).take i).map (lpicF x cd)))
      ⟨_, _, rfl, k12, el, [], k2 _ _ e1 (by simp), rfl, fun H'' _ => .nil⟩ (fun i σ H' _ ⟨_, _, _, _, z, _⟩ => SqL.of z) ?_ ?_⟩
    · rintro i v σ H3 hx ⟨v2, v3, rfl, k3, el3, vs, ef3, vl, dp⟩
      obtain ⟨g, hg, rfl⟩ : ∃ g, (stand x.ts)[i]? = some g ∧ v = nint g := by
        rw [List.getElem?_map] at hx
        cases ek : (stand x.ts)[i]? with
        | none => rw [ek] at hx; cases hx
        | some g => rw [ek] at hx; exact ⟨g, rfl, (Option.some.inj hx).symm⟩
      have hgt : x.ts[g]? = some none := mem_stand.mp (List.mem_of_getElem? hg)
      have hgl : g < x.hs.length := by have := (List.getElem?_eq_some_iff.mp hgt).1; omega
      have hi : i < (stand x.ts).length := (List.getElem?_eq_some_iff.mp hg).1
      have sl := stand_len x.ts
      have y3 := y.kp0 k3
      refine ⟨_, rfl, _, rfl, x, g, rfl, y3, by omega, fun l4 H4 hl4 k4 el4 => ⟨l4, rfl, ⟨_, SqL.of el4⟩, fun D hD => ?_⟩⟩
      have neD : ∀ b o, H4 b = some o → b ≠ D := fun b o eb => ne_of_none eb hD
      have k34 := k3.trans k4
      refine lc_list (K := K) (a := l4) (xs := (x.giv g).map fun r => V.ref r.w) (fun i H5 => Kp [] H4 H5 ∧ ∃ us : List V, H5 D = some (.lst us) ∧ us.length = i ∧ ∀ H'', TKq H5 H'' → DpAll K H'' us (((x.giv g).take i).map (picR cd)))
        ⟨fun b o eb _ => (upd_ne (neD b o eb)).trans eb, [], upd_same, rfl, fun H'' _ => .nil⟩ (fun i H5 _ ⟨k5, _⟩ => SqL.of (k5 _ _ el4 (by simp))) ?_ ?_
      · rintro j u H5 hy ⟨k5, us, eD, ul, du⟩
        obtain ⟨r, hr2, rfl⟩ : ∃ r, (x.giv g)[j]? = some r ∧ u = .ref r.w := by
          rw [List.getElem?_map] at hy
          cases ek : (x.giv g)[j]? with
          | none => rw [ek] at hy; cases hy
          | some r => rw [ek] at hy; exact ⟨r, rfl, (Option.some.inj hy).symm⟩
        have hm := List.mem_of_getElem? hr2
        have hj := (List.getElem?_eq_some_iff.mp hr2).1
        obtain ⟨hrs, hrf⟩ := List.mem_filter.mp hm
        have k35 := k34.trans k5
        have y5 := y.kp0 k35
        have gl2 : (x.giv g).length ≤ 100000 := Nat.le_trans (List.length_filter_le _ _) hl
        refine ⟨rfl, _, rfl, x.m, _, rfl, y5.getC, _, rfl, x.mc, _, rfl, y5.getR hrs (y5.wl r hrs), r.c, _, rfl, .inl ⟨SqL.of (y5.cl r hrs), fun q2 hq2 => ?_⟩⟩
        have k6 := (Kp.refl (S := []) (H := H5)).new (o := .tup r.cells) hq2
        have e6 : upd H5 q2 (.tup r.cells) q2 = some (.tup r.cells) := upd_same
        generalize upd H5 q2 (.tup r.cells) = H6 at *
        have eD6 := k6 _ _ eD (by simp)
        refine ⟨_, eD6, (by rw [ul]; exact Nat.lt_of_le_of_lt (m := 100000) (by omega) (by decide)), fun b o eb _ => (upd_ne (neD b o eb)).trans ((k5.trans k6) b o eb (by simp)), us ++ [.ref q2], upd_same, by rw [List.length_append, ul]; rfl, fun H'' k'' => ?_⟩
        have t6 : TKq H6 H'' := (tkq_upd eD6).trans k''
        rw [List.take_succ, hr2, List.map_append]
        refine DpAll.snoc ?_ (du H'' (k6.tkq.trans t6))
        exact .tup (SqT.of (t6 _ _ e6)) (hcd r hrs H'' ((k35.trans k6).tkq.trans t6))
      · rintro H5 ⟨k5, us, eD, ul, du⟩
        have k35 := k34.trans k5
        have y5 := y.kp0 k35
        refine ⟨D, _, rfl, .inl ⟨SqL.of eD, fun q2 hq2 => ?_⟩⟩
        have k6 := (Kp.refl (S := []) (H := H5)).new (o := .tup us) hq2
        have e6 : upd H5 q2 (.tup us) q2 = some (.tup us) := upd_same
        generalize upd H5 q2 (.tup us) = H6 at *
        have y6 := y5.kp0 k6
        refine ⟨_, rfl, .inl ⟨rfl, _, SqL.of ((k4.trans (k5.trans k6)) _ _ ef3 (by simp))⟩, _, rfl, _, rfl, x.m, _, rfl, y6.md.getH, _, rfl, x.mh, _, _, _, rfl, rfl, SqL.of y6.lh, get_enc (List.getElem?_eq_getElem hgl), _, rfl, (by show 3 ≤ sizeLine; decide), fun q3 hq3 => ?_⟩
        have k7 := (Kp.refl (S := []) (H := H6)).new (o := .tup [nint g, enc x.hs[g], .ref q2]) hq3
        have e7 : upd H6 q3 (.tup [nint g, enc x.hs[g], .ref q2]) q3 = some (.tup [nint g, enc x.hs[g], .ref q2]) := upd_same
        generalize upd H6 q3 (.tup [nint g, enc x.hs[g], .ref q2]) = H7 at *
        have k47 := (k4.trans k5).trans (k6.trans k7)
        have ef7 := k47 _ _ ef3 (by simp)
        have el7 := k47 _ _ el3 (by simp)
        refine ⟨lf, vs, _, rfl, rfl, ef7, (by rw [vl]; exact Nat.lt_of_le_of_lt (m := 1000) (by omega) (by decide)), _, _, rfl, fun b o eb _ => (upd_ne (ne_of_none eb hlf)).trans ((k3.trans k47) b o eb (by simp)), (upd_ne nl.symm).trans el7, vs ++ [.ref q3], upd_same, by rw [List.length_append, vl]; rfl, fun H'' k'' => ?_⟩
        have t7 : TKq H7 H'' := (tkq_upd ef7).trans k''
        rw [List.take_succ, hg, List.map_append]
        refine DpAll.snoc ?_ (dp H'' (k47.tkq.trans t7))
        have eG : x.hs[g]?.getD none = x.hs[g] := by rw [List.getElem?_eq_getElem hgl]; rfl
        unfold lpicF
        rw [eG]
        have du2 := du H'' ((k6.trans k7).tkq.trans t7)
        rw [List.take_of_length_le (by rw [List.length_map]; exact Nat.le_refl _)] at du2
        exact .tup (SqT.of (t7 _ _ e7)) (.cons (.int _) (.cons (dp_enc1 _) (.cons (.tup (SqT.of (t7 _ _ (k7 _ _ e6 (by simp)))) du2) .nil)))
    · rintro σ H3 ⟨v2, v3, rfl, k3, el3, vs, ef3, vl, dp⟩
      rw [List.length_map, List.take_length] at dp
      have y3 := y.kp0 k3
      refine ⟨_, rfl, x.m, _, rfl, y3.getL, _, rfl, lf, _, rfl, .inl ⟨SqL.of ef3, fun q2 hq2 => ?_⟩⟩
      have k6 := (Kp.refl (S := []) (H := H3)).new (o := .tup vs) hq2
      have e6 : upd H3 q2 (.tup vs) q2 = some (.tup vs) := upd_same
      generalize upd H3 q2 (.tup vs) = H6 at *
      refine ⟨(by show 2 ≤ sizeLine; decide), fun q3 hq3 => ?_⟩
      have k7 := (Kp.refl (S := []) (H := H6)).new (o := .tup [nint x.lim, .ref q2]) hq3
      have e7 : upd H6 q3 (.tup [nint x.lim, .ref q2]) q3 = some (.tup [nint x.lim, .ref q2]) := upd_same
      refine q _ _ (k3.trans (k6.trans k7)) fun H'' t7 => ?_
      exact .tup (SqT.of (t7 _ _ e7)) (.cons (.int _) (.cons (.tup (SqT.of (t7 _ _ (k7 _ _ e6 (by simp)))) (dp H'' ((k6.trans k7).tkq.trans t7))) .nil))
end

end Lw
namespace Lw
open PySem PySem.Spec L2 FG
open PyProof.Rows hiding St
/-! ### the law's own house once more -/
theorem LSt.putH (x : LSt) (a : Addr) : putK x.kv (Sum.inr ("holders" : Str)) (.ref a) = ({ x with mh := a } : LSt).kv := by
  have a1 : ¬ (Sum.inr ("takers" : Str) : L2.Key) = Sum.inr ("holders" : Str) := nk (by decide +kernel)
  have a2 : ¬ (Sum.inr ("limit" : Str) : L2.Key) = Sum.inr ("holders" : Str) := nk (by decide +kernel)
  have a3 : ¬ (Sum.inr ("top" : Str) : L2.Key) = Sum.inr ("holders" : Str) := nk (by decide +kernel)
  have a4 : ¬ (Sum.inr ("ways" : Str) : L2.Key) = Sum.inr ("holders" : Str) := nk (by decide +kernel)
  have a5 : ¬ (Sum.inr ("cells" : Str) : L2.Key) = Sum.inr ("holders" : Str) := nk (by decide +kernel)
  unfold putK LSt.kv
  simp [a1, a2, a3, a4, a5]
theorem LSt.putT (x : LSt) (a : Addr) : putK x.kv (Sum.inr ("takers" : Str)) (.ref a) = ({ x with mt := a } : LSt).kv := by
  have a1 : ¬ (Sum.inr ("holders" : Str) : L2.Key) = Sum.inr ("takers" : Str) := nk (by decide +kernel)
  have a2 : ¬ (Sum.inr ("limit" : Str) : L2.Key) = Sum.inr ("takers" : Str) := nk (by decide +kernel)
  have a3 : ¬ (Sum.inr ("top" : Str) : L2.Key) = Sum.inr ("takers" : Str) := nk (by decide +kernel)
  have a4 : ¬ (Sum.inr ("ways" : Str) : L2.Key) = Sum.inr ("takers" : Str) := nk (by decide +kernel)
  have a5 : ¬ (Sum.inr ("cells" : Str) : L2.Key) = Sum.inr ("takers" : Str) := nk (by decide +kernel)
  unfold putK LSt.kv
  simp [a1, a2, a3, a4, a5]
theorem LSt.putW (x : LSt) (a : Addr) : putK x.kv (Sum.inr ("ways" : Str)) (.ref a) = ({ x with mw := a } : LSt).kv := by
  have a1 : ¬ (Sum.inr ("holders" : Str) : L2.Key) = Sum.inr ("ways" : Str) := nk (by decide +kernel)
  have a2 : ¬ (Sum.inr ("takers" : Str) : L2.Key) = Sum.inr ("ways" : Str) := nk (by decide +kernel)
  have a3 : ¬ (Sum.inr ("limit" : Str) : L2.Key) = Sum.inr ("ways" : Str) := nk (by decide +kernel)
  have a4 : ¬ (Sum.inr ("top" : Str) : L2.Key) = Sum.inr ("ways" : Str) := nk (by decide +kernel)
  have a5 : ¬ (Sum.inr ("cells" : Str) : L2.Key) = Sum.inr ("ways" : Str) := nk (by decide +kernel)
  unfold putK LSt.kv
  simp [a1, a2, a3, a4, a5]
theorem LSt.putC (x : LSt) (a : Addr) : putK x.kv (Sum.inr ("cells" : Str)) (.ref a) = ({ x with mc := a } : LSt).kv := by
  have a1 : ¬ (Sum.inr ("holders" : Str) : L2.Key) = Sum.inr ("cells" : Str) := nk (by decide +kernel)
  have a2 : ¬ (Sum.inr ("takers" : Str) : L2.Key) = Sum.inr ("cells" : Str) := nk (by decide +kernel)
  have a3 : ¬ (Sum.inr ("limit" : Str) : L2.Key) = Sum.inr ("cells" : Str) := nk (by decide +kernel)
  have a4 : ¬ (Sum.inr ("top" : Str) : L2.Key) = Sum.inr ("cells" : Str) := nk (by decide +kernel)
  have a5 : ¬ (Sum.inr ("ways" : Str) : L2.Key) = Sum.inr ("cells" : Str) := nk (by decide +kernel)
  unfold putK LSt.kv
  simp [a1, a2, a3, a4, a5]
def LSt.mid (x : LSt) (p a b c : Addr) : LSt := { x with m := p, mh := a, mt := b, mw := c }
def LSt.cp (x : LSt) (p a b c d : Addr) (Z : List TwC) : LSt := ⟨p, a, b, c, d, x.hs, x.ts, Z.map TwC.nr, x.lim, x.top⟩
def spLCopy : Sp := fun vs H Q _ => ∃ x : LSt, vs = [.ref x.m] ∧ LmAt H x ∧ x.ls.length ≤ 1000000 ∧ x.hs.length ≤ 1000 ∧ x.ts.length ≤ 1000 ∧
  ∀ p a b c d Z H', (∀ e ∈ [p, a, b, c, d] ++ Z.map (·.c), H e = none) → Z.map (·.r) = x.ls → Kp [] H H' → LmAt H' (x.cp p a b c d Z) → Q (.ref p) H'
/-- what is copied behind i of three words -/
structure CpI (x : LSt) (H H' : Hp) (p a b c : Addr) (i : Nat) : Prop where
  p : H' p = some (.dK (x.mid p a b c).kv)
  a1 : 0 < i → H a = none ∧ H' a = some (.lst (x.hs.map enc))
  a0 : i = 0 → a = x.mh
  b1 : 1 < i → H b = none ∧ H' b = some (.lst (x.ts.map enc)) ∧ a ≠ b
  b0 : i ≤ 1 → b = x.mt
  c1 : 2 < i → H c = none ∧ H' c = some (.lst (x.ls.map fun r => .ref r.w)) ∧ a ≠ c ∧ b ≠ c
  c0 : i ≤ 2 → c = x.mw
/-- a new list is put into the dict at p -/
theorem CpI.h {x : LSt} {H H' H'' : Hp} {p a b c a' : Addr} (I : CpI x H H' p a b c 0) (k : Kp [] H H') (hp : H p = none) (ha : H' a' = none) (e : H'' = upd (upd H' a' (.lst (x.hs.map enc))) p (.dK (putK (x.mid p a b c).kv (Sum.inr ("holders" : Str)) (.ref a')))) : Kp [] H H'' ∧ CpI x H H'' p a' b c 1 := by
  have npa : a' ≠ p := fun z => by rw [z, I.p] at ha; cases ha
  subst e
  refine ⟨fun b o eb _ => (upd_ne (ne_of_none eb hp)).trans ((upd_ne (ne_of_none (k b o eb (by simp)) ha)).trans (k b o eb (by simp))), ⟨?_, fun _ => ⟨k.free ha, (upd_ne npa).trans upd_same⟩, fun z => by omega, fun z => by omega, fun _ => I.b0 (by omega), fun z => by omega, fun _ => I.c0 (by omega)⟩⟩
  rw [upd_same, LSt.putH]; rfl
theorem CpI.t {x : LSt} {H H' H'' : Hp} {p a b c a' : Addr} (I : CpI x H H' p a b c 1) (k : Kp [] H H') (hp : H p = none) (ha : H' a' = none) (e : H'' = upd (upd H' a' (.lst (x.ts.map enc))) p (.dK (putK (x.mid p a b c).kv (Sum.inr ("takers" : Str)) (.ref a')))) : Kp [] H H'' ∧ CpI x H H'' p a a' c 2 := by
  have npa : a' ≠ p := fun z => by rw [z, I.p] at ha; cases ha
  obtain ⟨fa, ea⟩ := I.a1 (by omega)
  have nap : a ≠ p := fun z => by rw [z, I.p] at ea; cases ea
  have naa : a ≠ a' := ne_of_none ea ha
  subst e
  refine ⟨fun b o eb _ => (upd_ne (ne_of_none eb hp)).trans ((upd_ne (ne_of_none (k b o eb (by simp)) ha)).trans (k b o eb (by simp))), ⟨?_, fun _ => ⟨fa, (upd_ne nap).trans ((upd_ne naa).trans ea)⟩, fun z => by omega, fun _ => ⟨k.free ha, (upd_ne npa).trans upd_same, naa⟩, fun z => by omega, fun z => by omega, fun _ => I.c0 (by omega)⟩⟩
  rw [upd_same, LSt.putT]; rfl
theorem CpI.w {x : LSt} {H H' H'' : Hp} {p a b c a' : Addr} (I : CpI x H H' p a b c 2) (k : Kp [] H H') (hp : H p = none) (ha : H' a' = none) (e : H'' = upd (upd H' a' (.lst (x.ls.map fun r => .ref r.w))) p (.dK (putK (x.mid p a b c).kv (Sum.inr ("ways" : Str)) (.ref a')))) : Kp [] H H'' ∧ CpI x H H'' p a b a' 3 := by
  have npa : a' ≠ p := fun z => by rw [z, I.p] at ha; cases ha
  obtain ⟨fa, ea⟩ := I.a1 (by omega)
  obtain ⟨fb, eb, nab⟩ := I.b1 (by omega)
  have nap : a ≠ p := fun z => by rw [z, I.p] at ea; cases ea
  have naa : a ≠ a' := ne_of_none ea ha
  have nbp : b ≠ p := fun z => by rw [z, I.p] at eb; cases eb
  have nba : b ≠ a' := ne_of_none eb ha
  subst e
  refine ⟨fun b o eb _ => (upd_ne (ne_of_none eb hp)).trans ((upd_ne (ne_of_none (k b o eb (by simp)) ha)).trans (k b o eb (by simp))), ⟨?_, fun _ => ⟨fa, (upd_ne nap).trans ((upd_ne naa).trans ea)⟩, fun z => by omega, fun _ => ⟨fb, (upd_ne nbp).trans ((upd_ne nba).trans eb), nab⟩, fun z => by omega, fun _ => ⟨k.free ha, (upd_ne npa).trans upd_same, naa, nba⟩, fun z => by omega⟩⟩
  rw [upd_same, LSt.putW]; rfl
section
variable {P : Program} {w : World} {K : PySem.W.Frag} {mg : Str → Option Value} {base : Heap}
theorem ok_lcopy (T : Tx K mg) {fd : FuncData} (F : Fun K "_law_copy" "_law_copy" s__law_copy (He.ga K "_law_copy") fd) : FnG P w K mg base 1 (He.ga K "_law_copy") fd ["_law_model"] spLCopy := by
  refine FnG.of F sc__law_copy (fun vs H Q E h => ?_) (fun cdv A outer sh H vs Q E hr h => ?_)
  · obtain ⟨x, rfl, _⟩ := h; rfl
  · obtain ⟨x, rfl, y, hl, hl1, hl2, fin⟩ := h
    refine ⟨_, pss_cons (ps_set (i := 1) sc__law_copy.nd rfl (by first | exact Or.inl rfl | exact Or.inr rfl) (pe_callTy call_dictD (by rfl) T.z_dict (by decide +kernel) (pa_cons (pv 0) (pa_nil))))
      (pss_cons (ps_for (passes_of rfl) rfl (kiL K (pe_lst (pa_cons (pe_str) (pa_cons (pe_str) (pa_cons (pe_str) (pa_nil)))))) (pg_name (i := 2) sc__law_copy.nd rfl (by first | exact Or.inl rfl | exact Or.inr rfl))
        (pss_one (ps_dput hr.hu (pv 1) (pv 2) (pe_callTy (klist K) (by rfl) T.z_list (by decide +kernel) (pa_cons (pe_dget hr.hu (pv 0) (pv 2) (fun _ _ => rfl)) (pa_nil))) rfl)))
      (pss_cons (ps_dput hr.hu (pv 1) (pe_str) (pe_callTy (call_dictPT hr.r.units rfl) (by rfl) T.z_dict (by decide +kernel) (pa_cons (pe_lock (pe_lc (own := [("_law_way", 3), ("_law_cells", 4)]) (g := gTup K 2 (gCons (gName 3) (gCons (gName 4) (gNil)))) (tt := tYes) rfl sc__law_copy.nd (pi_itemsT (pe_dget hr.hu (pv 0) (pe_str) (fun _ _ => rfl))) (blkOk_by (own := [("_law_way", 3), ("_law_cells", 4)]) (N := ["_law_model", "_law_found", "_law_word", "_law_way", "_law_cells"]) (sc := defScope s__law_copy) (by decide +kernel)) (fun _ _ _ _ _ => by exact kgT K rfl (pgs_cons (pg_name (i := 3) sc__law_copy.nd rfl (by first | exact Or.inl rfl | exact Or.inr rfl)) (pgs_cons (pg_name (i := 4) sc__law_copy.nd rfl (by first | exact Or.inl rfl | exact Or.inr rfl)) (pgs_nil)))) (fun _ _ _ _ _ => by exact pts_nil) (fun _ _ _ _ _ => by exact pe_tup (pa_cons (pv 3) (pa_cons (pe_callTy (klist K) (by rfl) T.z_list (by decide +kernel) (pa_cons (pv 4) (pa_nil))) (pa_nil)))))) (pa_nil))) rfl)
      (pss_one (ps_ret (pv 1))))), ?_⟩
    refine ⟨_, rfl, x.m, x.kv, rfl, .inl y.d, fun p hp => ?_⟩
    have k0 := (Kp.refl (S := []) (H := H)).new (o := .dK x.kv) hp
    have e0 : upd H p (.dK x.kv) p = some (.dK x.kv) := upd_same
    generalize upd H p (.dK x.kv) = H0 at *
    refine ⟨(by show 3 ≤ sizeLine; decide), fun l hl0 => ?_⟩
    have k1 := (Kp.refl (S := []) (H := H0)).new (o := .lst [.str "holders", .str "takers", .str "ways"]) hl0
    have e1 : upd H0 l (.lst [.str "holders", .str "takers", .str "ways"]) l = some (.lst [.str "holders", .str "takers", .str "ways"]) := upd_same
    generalize upd H0 l (.lst [.str "holders", .str "takers", .str "ways"]) = H1 at *
    refine ⟨l, rfl, ⟨_, SqL.of e1⟩, for_list (K := K) (a := l) (xs := [V.str "holders", V.str "takers", V.str "ways"]) (fun i σ H' => ∃ v a b c, σ = [some (.ref x.m), some (.ref p), v, none, none] ∧ Kp [] H H' ∧ H' l = some (.lst [.str "holders", .str "takers", .str "ways"]) ∧ CpI x H H' p a b c i)
      ⟨_, x.mh, x.mt, x.mw, rfl, k0.trans k1, e1, ⟨k1 _ _ e0 (by simp), (fun z => by omega), (fun _ => rfl), (fun z => by omega), (fun _ => rfl), (fun z => by omega), (fun _ => rfl)⟩⟩ (fun i σ H' _ ⟨_, _, _, _, _, _, z, _⟩ => SqL.of z) ?_ ?_⟩
    · rintro i v σ H3 hx ⟨v2, a, b, c, rfl, k3, el3, I⟩
      have y3 := y.kp0 k3
      have npl : l ≠ p := ne_of el3 I.p (fun z => by cases z)
      match i, hx, I with
      | 0, hx, I =>
        injection hx with hx
        subst hx
        refine ⟨_, rfl, _, rfl, x.m, _, rfl, y3.md.getH, x.mh, _, rfl, .inl (SqL.of y3.lh), fun a' ha' => ?_⟩
        refine ⟨_, rfl, _, rfl, p, _, rfl, DPut.k (k := Sum.inr ("holders" : Str)) ((upd_ne (ne_of_none I.p ha')).trans I.p) (by show 6 < sizeLine; decide), ?_⟩
        obtain ⟨k4, I4⟩ := I.h k3 hp ha' rfl
        exact ⟨_, _, _, _, rfl, k4, (upd_ne npl).trans ((upd_ne (ne_of_none el3 ha')).trans el3), I4⟩
      | 1, hx, I =>
        injection hx with hx
        subst hx
        refine ⟨_, rfl, _, rfl, x.m, _, rfl, y3.md.getT, x.mt, _, rfl, .inl (SqL.of y3.lt), fun a' ha' => ?_⟩
        refine ⟨_, rfl, _, rfl, p, _, rfl, DPut.k (k := Sum.inr ("takers" : Str)) ((upd_ne (ne_of_none I.p ha')).trans I.p) (by show 6 < sizeLine; decide), ?_⟩
        obtain ⟨k4, I4⟩ := I.t k3 hp ha' rfl
        exact ⟨_, _, _, _, rfl, k4, (upd_ne npl).trans ((upd_ne (ne_of_none el3 ha')).trans el3), I4⟩
      | 2, hx, I =>
        injection hx with hx
        subst hx
        refine ⟨_, rfl, _, rfl, x.m, _, rfl, y3.getW, x.mw, _, rfl, .inl (SqL.of y3.lw), fun a' ha' => ?_⟩
        refine ⟨_, rfl, _, rfl, p, _, rfl, DPut.k (k := Sum.inr ("ways" : Str)) ((upd_ne (ne_of_none I.p ha')).trans I.p) (by show 6 < sizeLine; decide), ?_⟩
        obtain ⟨k4, I4⟩ := I.w k3 hp ha' rfl
        exact ⟨_, _, _, _, rfl, k4, (upd_ne npl).trans ((upd_ne (ne_of_none el3 ha')).trans el3), I4⟩
      | n + 3, hx, I => cases hx
    · rintro σ H7 ⟨v2, a, b, c, rfl, K7, el7, I⟩
      have I : CpI x H H7 p a b c 3 := I
      obtain ⟨fa, ea⟩ := I.a1 (by omega)
      obtain ⟨fb, eb, nab⟩ := I.b1 (by omega)
      obtain ⟨fc, ec, nac, nbc⟩ := I.c1 (by omega)
      have ep := I.p
      have y7 := y.kp0 K7
      have ehd := y7.lc
      have npd : x.m ≠ x.mc := ne_ob y7.d ehd (fun z => by cases z)
      refine ⟨x.mc, _, ehd, trivial, fun od => ?_⟩
      refine ⟨_, rfl, x.m, _, rfl, ?_, x.mc, od, _, rfl, upd_same, fun D hD => ?_⟩
      · have z := DGet.k (k := Sum.inr ("cells" : Str)) ((upd_ne (o := .frz od (.dT (hdL x.ls))) npd).trans y7.d)
        rw [x.vC] at z; exact z
      have nD : D ≠ x.mc := fun c => by rw [c, upd_same] at hD; cases hD
      have hD7 : H7 D = none := by rw [upd_ne nD] at hD; exact hD
      refine lc_it walk_itemsT (fun i H2 => (∀ b o, H7 b = some o → b ≠ x.mc → H2 b = some o) ∧ H2 x.mc = some (.frz od (.dT (hdL x.ls))) ∧ ∃ Z : List TwC, Z.map (·.r) = x.ls.take i ∧ H2 D = some (.lst (Z.map fun z => V.ref z.p)) ∧
        (∀ z ∈ Z, H2 z.p = some (.tup [.ref z.q, .ref z.c]) ∧ H2 z.q = some (.tup (z.r.key.map kV)) ∧ H2 z.c = some (.lst z.r.cells) ∧ H7 z.c = none ∧ z.c ≠ D) ∧ (Z.map (·.c)).Nodup)
        ⟨fun b o eb hb => ?_, ?_, [], rfl, upd_same, (fun z hz => by cases hz), List.nodup_nil⟩ (fun i H2 _ p => p.2.1) ?_ ?_
      · rw [upd_ne (ne_of_none eb hD7), upd_ne hb]; exact eb
      · rw [upd_ne nD.symm, upd_same]
      · rintro i u H3 H4 hi ⟨k3, e3, Z, eZ, eD, hZ, nZ⟩ ⟨T', k, v, q', hk, rfl, hq', hT, rfl⟩
        have hi2 : i < x.ls.length := by simpa [hdL] using hi
        have hr2 : x.ls[i]? = some x.ls[i] := List.getElem?_eq_getElem hi2
        generalize x.ls[i] = r at hr2
        have hm := List.mem_of_getElem? hr2
        obtain ⟨rfl, rfl⟩ : r.key = k ∧ V.ref r.c = v := by
          unfold hdL at hk
          rw [List.getElem?_map, hr2] at hk
          have hx2 : (r.key, V.ref r.c) = (k, v) := Option.some.inj hk
          exact ⟨congrArg Prod.fst hx2, congrArg Prod.snd hx2⟩
        have kT := (Kp.refl (S := []) (H := H3)).new (o := .tup [.ref q', .ref r.c]) hT
        have eT : upd H3 T' (.tup [.ref q', .ref r.c]) T' = some (.tup [.ref q', .ref r.c]) := upd_same
        generalize upd H3 T' (.tup [.ref q', .ref r.c]) = H4 at *
        have erc := y7.cl r hm
        have nrc : r.c ≠ x.mc := ne_of erc ehd (fun z => by cases z)
        have erc4 := kT _ _ (k3 _ _ erc nrc) (by simp)
        refine ⟨T', _, rfl, SqT.of eT, rfl, _, _, rfl, _, _, rfl, rfl, ?_⟩
        refine ⟨rfl, _, rfl, _, rfl, r.c, _, rfl, .inl (SqL.of erc4), fun c' hc' => ?_⟩
        have kC := (Kp.refl (S := []) (H := H4)).new (o := .lst r.cells) hc'
        have eC : upd H4 c' (.lst r.cells) c' = some (.lst r.cells) := upd_same
        generalize upd H4 c' (.lst r.cells) = H5 at *
        refine ⟨(by show 2 ≤ sizeLine; decide), fun p' hp' => ?_⟩
        have kP := (Kp.refl (S := []) (H := H5)).new (o := .tup [.ref q', .ref c']) hp'
        have eP : upd H5 p' (.tup [.ref q', .ref c']) p' = some (.tup [.ref q', .ref c']) := upd_same
        generalize upd H5 p' (.tup [.ref q', .ref c']) = H6 at *
        have k46 := (kT.trans kC).trans kP
        have eD6 := k46 _ _ eD (by simp)
        have nc : c' ≠ D := (ne_of_none (kT _ _ eD (by simp)) hc').symm
        have fc : H7 c' = none := by
          cases e : H7 c' with
          | none => rfl
          | some o =>
            by_cases c : c' = x.mc
            · rw [c, kT _ _ e3 (by simp)] at hc'; cases hc'
            · rw [kT _ _ (k3 _ _ e c) (by simp)] at hc'; cases hc'
        have lZ : Z.length = i := by
          have := congrArg List.length eZ
          rw [List.length_map, List.length_take] at this; omega
        have kD : ∀ b o, H6 b = some o → b ≠ D → upd H6 D (.lst ((Z.map fun z => V.ref z.p) ++ [.ref p'])) b = some o := fun b o eb nb => (upd_ne nb).trans eb
        refine ⟨_, eD6, (by rw [List.length_map, lZ]; exact Nat.lt_of_le_of_lt (m := 1000000) (by omega) (by decide)), fun b o eb hb => kD b o (k46 b o (k3 b o eb hb) (by simp)) (ne_of_none eb hD7), kD _ _ (k46 _ _ e3 (by simp)) nD.symm, Z ++ [⟨p', q', c', r⟩], ?_, ?_, fun z hz => ?_, ?_⟩
        · rw [List.map_append, eZ, List.take_succ, hr2]; rfl
        · rw [upd_same, List.map_append]; rfl
        · rcases List.mem_append.mp hz with y | y
          · obtain ⟨a1, a2, a3, a4, a5⟩ := hZ z y
            exact ⟨kD _ _ (k46 _ _ a1 (by simp)) (ne_of (k46 _ _ a1 (by simp)) eD6 (fun c => by cases c)), kD _ _ (k46 _ _ a2 (by simp)) (ne_of (k46 _ _ a2 (by simp)) eD6 (fun c => by cases c)), kD _ _ (k46 _ _ a3 (by simp)) a5, a4, a5⟩
          · rw [List.mem_singleton] at y
            subst y
            have hq6 := k46 _ _ hq' (by simp)
            exact ⟨kD _ _ eP (ne_of eP eD6 (fun c => by cases c)), kD _ _ hq6 (ne_of hq6 eD6 (fun c => by cases c)), kD _ _ (kP _ _ eC (by simp)) nc, fc, nc⟩
        · rw [List.map_append]
          refine List.nodup_append.mpr ⟨nZ, (by simp), fun a ha b hb => ?_⟩
          obtain ⟨z, hz, rfl⟩ := List.mem_map.mp ha
          have hb2 : b = c' := by simpa using hb
          rw [hb2]
          exact ne_of_none (kT _ _ (hZ z hz).2.2.1 (by simp)) hc'
      · rintro H8 ⟨k8, e8, Z, eZ, eD, hZ, nZ⟩
        have hn : (hdL x.ls).length = x.ls.length := by simp [hdL]
        rw [hn, List.take_length] at eZ
        have kR : ∀ b o, H8 b = some o → b ≠ x.mc → upd H8 x.mc (.dT (hdL x.ls)) b = some o := fun b o eb nb => (upd_ne nb).trans eb
        have eRd : upd H8 x.mc (.dT (hdL x.ls)) x.mc = some (.dT (hdL x.ls)) := upd_same
        refine ⟨e8, D, Z.map TwC.pr, rfl, ?_, fun y hy => ?_, ?_, fun hd hhd => ?_⟩
        · rw [List.map_map]; exact SqL.of (kR _ _ eD nD)
        · obtain ⟨z, hz, rfl⟩ := List.mem_map.mp hy
          obtain ⟨a1, a2, a3, a4, a5⟩ := hZ z hz
          exact ⟨kR _ _ a1 (ne_of a1 e8 (fun c => by cases c)), kR _ _ a2 (ne_of a2 e8 (fun c => by cases c))⟩
        · rw [List.map_map]
          have z1 : (x.ls.map Rm.key).Nodup := kkn_of y.kn
          rw [← eZ, List.map_map] at z1
          exact z1
        have ekv : (Z.map TwC.pr).map (fun t => (t.k, t.v)) = hdL (Z.map TwC.nr) := by
          unfold hdL
          rw [List.map_map, List.map_map]; rfl
        rw [ekv]
        have k7R : Kp [] H7 (upd H8 x.mc (.dT (hdL x.ls))) := fun b o eb _ => by
          by_cases c : b = x.mc
          · rw [c, upd_same, ← ehd, ← c, eb]
          · exact kR b o (k8 b o eb c) c
        have hZR : ∀ z ∈ Z, upd H8 x.mc (.dT (hdL x.ls)) z.c = some (.lst z.r.cells) := fun z hz => kR _ _ (hZ z hz).2.2.1 (ne_of (hZ z hz).2.2.1 e8 (fun c => by cases c))
        generalize upd H8 x.mc (.dT (hdL x.ls)) = HR at *
        have epR := k7R _ _ ep (by simp)
        have nhd : hd ≠ p := (ne_of_none epR hhd).symm
        refine ⟨_, rfl, p, _, rfl, DPut.k (k := Sum.inr ("cells" : Str)) ((upd_ne nhd.symm).trans epR) (by show 6 < sizeLine; decide), ?_⟩
        have fr_hd : H hd = none := (K7.trans k7R).free hhd
        have K8 : Kp [] H (upd (upd HR hd (.dT (hdL (Z.map TwC.nr)))) p (.dK (putK (x.mid p a b c).kv (Sum.inr ("cells" : Str)) (.ref hd)))) := fun b o eb _ => (upd_ne (ne_of_none eb hp)).trans ((upd_ne (ne_of_none eb fr_hd)).trans ((K7.trans k7R) b o eb (by simp)))
        have ep8 : upd (upd HR hd (.dT (hdL (Z.map TwC.nr)))) p (.dK (putK (x.mid p a b c).kv (Sum.inr ("cells" : Str)) (.ref hd))) p = some (.dK (x.cp p a b c hd Z).kv) := by rw [upd_same, LSt.putC]; rfl
        have up8 : ∀ {b' o}, HR b' = some o → b' ≠ p → upd (upd HR hd (.dT (hdL (Z.map TwC.nr)))) p (.dK (putK (x.mid p a b c).kv (Sum.inr ("cells" : Str)) (.ref hd))) b' = some o := fun eb nb => (upd_ne nb).trans ((upd_ne (ne_of_none eb hhd)).trans eb)
        have vhd : upd (upd HR hd (.dT (hdL (Z.map TwC.nr)))) p (.dK (putK (x.mid p a b c).kv (Sum.inr ("cells" : Str)) (.ref hd))) hd = some (.dT (hdL (Z.map TwC.nr))) := (upd_ne nhd).trans upd_same
        have wa := up8 (k7R _ _ ea (by simp)) (ne_of ea ep (fun z => by cases z))
        have wb := up8 (k7R _ _ eb (by simp)) (ne_of eb ep (fun z => by cases z))
        have wc := up8 (k7R _ _ ec (by simp)) (ne_of ec ep (fun z => by cases z))
        have wZ : ∀ z ∈ Z, upd (upd HR hd (.dT (hdL (Z.map TwC.nr)))) p (.dK (putK (x.mid p a b c).kv (Sum.inr ("cells" : Str)) (.ref hd))) z.c = some (.lst z.r.cells) := fun z hz => up8 (hZR z hz) (ne_of (hZR z hz) epR (fun c => by cases c))
        have nhZ : ∀ a o, H7 a = some o → a ∉ Z.map (·.c) := fun a o ea z => by
          obtain ⟨y, hy, rfl⟩ := List.mem_map.mp z
          rw [(hZ y hy).2.2.2.1] at ea; cases ea
        generalize upd (upd HR hd (.dT (hdL (Z.map TwC.nr)))) p (.dK (putK (x.mid p a b c).kv (Sum.inr ("cells" : Str)) (.ref hd))) = H9 at *
        have eC : (x.cp p a b c hd Z).ls.map (·.c) = Z.map (·.c) := by show (Z.map TwC.nr).map _ = _; rw [List.map_map]; rfl
        refine ⟨_, rfl, fin p a b c hd Z H9 (fun e he => ?_) eZ K8 ⟨ep8, wa, wb, ?_, vhd, fun r hr2 => ?_, fun r hr2 => ?_, nab, nac, nbc, ?_, ?_, ?_, ?_, ?_⟩⟩
        · rcases List.mem_append.mp he with z | z
          · simp only [List.mem_cons, List.not_mem_nil, or_false] at z
            rcases z with rfl | rfl | rfl | rfl | rfl
            · exact hp
            · exact fa
            · exact fb
            · exact fc
            · exact fr_hd
          · obtain ⟨y, hy, rfl⟩ := List.mem_map.mp z
            exact K7.free (hZ y hy).2.2.2.1
        · have e5 : ((Z.map TwC.nr).map fun r : Rm => V.ref r.w) = x.ls.map fun r : Rm => V.ref r.w := by
            rw [← eZ, List.map_map, List.map_map]; rfl
          show H9 c = some (.lst ((Z.map TwC.nr).map fun r : Rm => V.ref r.w))
          rw [e5]; exact wc
        · obtain ⟨z, hz, rfl⟩ := List.mem_map.mp hr2
          exact wZ z hz
        · obtain ⟨z, hz, rfl⟩ := List.mem_map.mp hr2
          have hzr : z.r ∈ x.ls := by rw [← eZ]; exact List.mem_map.mpr ⟨z, hz, rfl⟩
          exact K8 _ _ (y.wl z.r hzr) (by simp)
        · rw [eC]; exact nZ
        · rw [eC]; exact nhZ a _ ea
        · rw [eC]; exact nhZ b _ eb
        · rw [eC]; exact nhZ c _ ec
        · have e5 : (Z.map TwC.nr).map pk = x.ls.map pk := by rw [← eZ, List.map_map, List.map_map]; rfl
          show ((Z.map TwC.nr).map pk).Nodup
          rw [e5]; exact y.kn
end

end Lw
namespace Lw
open PySem PySem.Spec L2 FG
open PyProof.Rows hiding St
/-! ### touches that are refused -/
theorem lk_by (u v : V) : ([(("by" : Str), u), ("found", v)] : List (Str × V)).lookup ("by" : Str) = some u := by
  simp [List.lookup]
theorem lk_f1 (u : V) : ([(("found" : Str), u)] : List (Str × V)).lookup ("found" : Str) = some u := by
  simp [List.lookup]
theorem rep_one (k : Nat) (v : V) : (List.replicate k [v]).flatten = List.replicate k v := by
  induction k with
  | zero => rfl
  | succ k ih => rw [List.replicate_succ, List.flatten_cons, ih, List.replicate_succ]; rfl
theorem eqv_self {d : PyData} (h : SeqAt.shaped d = true) : PyData.eqv d d = true := by
  unfold SeqAt.shaped at h
  rw [Bool.and_eq_true] at h
  exact SeqAt.eqv_refl d h.1
theorem shaped_way (f o : Nat) : SeqAt.shaped (wayD f o) = true := rfl
theorem lay_ways (l : List Rm) : PyData.canLayAll0 (waysD l) = true ∧ PyData.depthAll (waysD l) ≤ 1 := by
  induction l with
  | nil => exact ⟨rfl, by show 0 ≤ 1; omega⟩
  | cons r l ih =>
    have e : waysD (r :: l) = wayD r.f r.o :: waysD l := rfl
    rw [e]
    refine ⟨?_, ?_⟩
    · simp only [PyData.canLayAll0, ih.1, Bool.and_true]; rfl
    · have := ih.2
      simp only [PyData.depthAll, depth_way]; omega
theorem shaped_ways (l : List Rm) : SeqAt.shaped (.list (waysD l)) = true := by
  obtain ⟨a, b⟩ := lay_ways l
  unfold SeqAt.shaped
  rw [Bool.and_eq_true, decide_eq_true_eq]
  exact ⟨by simp only [PyData.canLay0]; exact a, by simp only [PyData.depth]; omega⟩
def toldD (a b : Nat) (z : Str) : PyData := .list [.str z, wayD a b]
theorem lay_told (a b : Nat) (zs : List Str) (h : ∀ z ∈ zs, (PyData.str z).canLay0 = true) : PyData.canLayAll0 (zs.map (toldD a b)) = true ∧ PyData.depthAll (zs.map (toldD a b)) ≤ 3 := by
  induction zs with
  | nil => exact ⟨rfl, by show 0 ≤ 3; omega⟩
  | cons z zs ih =>
    have ih := ih fun u hu => h u (by simp [hu])
    have hz := h z (by simp)
    refine ⟨?_, ?_⟩
    · have e : (wayD a b).canLay0 = true := rfl
      simp only [PyData.canLay0] at hz
      simp only [List.map_cons, PyData.canLayAll0, ih.1, Bool.and_true, toldD, PyData.canLay0, hz, e, Bool.and_self]
    · have := ih.2
      simp only [List.map_cons, PyData.depthAll, toldD, PyData.depth, depth_way]; omega
theorem shaped_told (a b n : Nat) : SeqAt.shaped (.list ((("way" : Str) :: List.replicate n ("value" : Str)).map (toldD a b))) = true := by
  obtain ⟨x, y⟩ := lay_told a b (("way" : Str) :: List.replicate n ("value" : Str)) fun z hz => by
    rcases List.mem_cons.mp hz with c | c
    · rw [c]; decide +kernel
    · rw [List.eq_of_mem_replicate c]; decide +kernel
  unfold SeqAt.shaped
  rw [Bool.and_eq_true, decide_eq_true_eq]
  exact ⟨by simp only [PyData.canLay0]; exact x, by simp only [PyData.depth]; omega⟩
theorem told_dp {K : PySem.W.Frag} {H : Hp} {q : Addr} {a b : Nat} (eq : H q = some (.tup [.int (a : Int), .int (b : Int)])) : ∀ L : List (Addr × Str), (∀ z ∈ L, H z.1 = some (.lst [.str z.2, .ref q])) → DpAll K H (L.map fun z => .ref z.1) ((L.map (·.2)).map (toldD a b))
  | [], _ => .nil
  | z :: L, h => .cons (.lst (SqL.of (h z (by simp))) (.cons (.str z.2) (.cons (dp_way eq) .nil))) (told_dp eq L fun u hu => h u (by simp [hu]))
theorem cut_map (l : List Rm) (lo hi : Option Int) : ∃ rs : List Rm, cutV (l.map fun r => V.ref r.w) lo hi = rs.map (fun r => V.ref r.w) ∧ (∀ r ∈ rs, r ∈ l) ∧ rs.length ≤ l.length := by
  unfold cutV
  refine ⟨(l.drop _).take _, by rw [List.map_take, List.map_drop], fun r hr => List.mem_of_mem_drop (List.mem_of_mem_take hr), ?_⟩
  rw [List.length_take, List.length_drop]; omega
def spLBy (K : PySem.W.Frag) : Sp := fun vs H Q _ => ∃ (s : HSt) (q : Addr) (a b : Nat), vs = [.ref s.p, .ref q] ∧ HoAt (CH K) H s ∧ H q = some (.tup [.int (a : Int), .int (b : Int)]) ∧ (∃ r ∈ s.rs, r.f = a ∧ r.o = b) ∧ ∀ H', Kp [] H H' → Q (enc (s.ts[a]?.getD none)) H'
def spNoCell (K : PySem.W.Frag) : Sp := fun vs H Q _ => ∃ (s : HSt) (x : LSt) (r : Rm), vs = [.ref s.p, .ref r.w, .int (r.cells.length : Int)] ∧ HM K H s x ∧ r ∈ x.ls ∧ x.up r = true ∧ ∀ H', Kp [] H H' → Q (.int (r.cells.length : Int)) H'
def spCaught (K : PySem.W.Frag) : Sp := fun vs H Q _ => ∃ (s : HSt) (lr q : Addr) (a b : Nat) (rs : List Rm), vs = [.ref s.p, .ref lr, .ref q] ∧ HoAt (CH K) H s ∧ H lr = some (.lst (rs.map fun r => .ref r.w)) ∧
  (∀ r ∈ rs, H r.w = some (.tup [.int (r.f : Int), .int (r.o : Int)]) ∧ ∃ p ∈ s.here, p.f = r.f ∧ p.o = r.o) ∧ rs.length ≤ 1000000 ∧ H q = some (.tup [.int (a : Int), .int (b : Int)]) ∧ (∀ r ∈ s.rs, ¬ (r.f = a ∧ r.o = b)) ∧
  ∀ l H' (L : List (Addr × Str)), Kp [] H H' → H' l = some (.lst (L.map fun z => .ref z.1)) → (∀ z ∈ L, H' z.1 = some (.lst [.str z.2, .ref q])) → L.map (·.2) = ("way" : Str) :: List.replicate rs.length ("value" : Str) → Q (.ref l) H'
def spApart (K : PySem.W.Frag) : Sp := fun vs H Q _ => ∃ (s : HSt) (x : LSt) (lo : Addr) (us : List LSt), vs = [.ref s.p, .ref x.m, .ref lo] ∧ HM K H s x ∧ s.rs.length ≤ 10000 ∧ H lo = some (.lst (us.map fun u => .ref u.m)) ∧ (∀ u ∈ us, LmAt H u) ∧ ∀ H', Kp [] H H' → Q (.bl true) H'
section
variable {P : Program} {w : World} {K : PySem.W.Frag} {mg : Str → Option Value} {base : Heap}
theorem ok_lby (T : Tx K mg) {fd : FuncData} (F : Fun K "_law_by" "_law_by" s__law_by (He.ga K "_law_by") fd) (m_size : Met P w K mg base 4 (CH K) "size" (spSize K)) : FnG P w K mg base 5 (He.ga K "_law_by") fd ["_law_house_here", "_law_way"] (spLBy K) := by
  refine FnG.of F sc__law_by (fun vs H Q E h => ?_) (fun cdv A outer sh H vs Q E hr h => ?_)
  · obtain ⟨s, q, a, b, rfl, _⟩ := h; rfl
  · obtain ⟨s, q', a, b, rfl, ho, hq, ⟨r0, hr0, ea, eb⟩, q⟩ := h
    obtain ⟨dx, fs, e, ff, hf⟩ := ho.ob
    have wl := ho.wf.len
    have ha : a < s.ts.length := by have := ho.pl.fl r0 hr0; omega
    have et := List.getElem?_eq_getElem ha
    rw [et] at q
    refine ⟨_, pss_cons (ps_set (i := 2) sc__law_by.nd rfl (by first | exact Or.inl rfl | exact Or.inr rfl) (pe_non))
      (pss_cons (ps_mix sc__law_by.nd takes0 (fun W pn xe tk po => pss_one (ps_expr (gm m_size (hr.mono (by decide)) tk (pv 0) (pa_cons (pv 1) (pa_nil)))))
        (.as (i := 3) ⟨rfl, by decide, .inl T.g_Gone⟩ rfl (by first | rfl | decide +kernel) (fun a oe cls d pn hz hf => pss_one (ps_set (i := 2) sc__law_by.nd rfl (by first | exact Or.inl rfl | exact Or.inr rfl) (pe_xg hz hf (pv 3)))) .nil))
      (pss_one (ps_ret (pv 2)))), ?_⟩
    refine ⟨_, rfl, s.p, dx, fs, rfl, e, ff.no _ (by decide +kernel), _, rfl, s, q', a, b, rfl, ho, hq, fun r hr2 e1 e2 hu H' k => ?_, fun r hr2 e1 e2 hu i hi d H' k ed => ?_, fun no => absurd ⟨ea, eb⟩ (no r0 hr0)⟩
    · have hs : s.ts[a]? = some none := e1 ▸ of_decide_eq_true hu
      rw [et] at hs
      injection hs with hs
      rw [hs] at q
      exact ⟨_, rfl, q H' k⟩
    · rw [et] at hi
      injection hi with hi
      rw [hi] at q
      refine ⟨true, T.e_Gone_Gone, iteT fun ax hax => ?_⟩
      exact ⟨_, rfl, rfl, _, d, _, _, _, rfl, T.x_Gone.1, (by simp), rfl, ed, lk_by _ _, _, rfl, q H' k⟩
theorem ok_nocell (T : Tx K mg) {fd : FuncData} (F : Fun K "_law_no_cell" "_law_no_cell" s__law_no_cell (He.ga K "_law_no_cell") fd) (m_get : Met P w K mg base 5 (CH K) "get" (spGet K)) : FnG P w K mg base 6 (He.ga K "_law_no_cell") fd ["_law_house_here", "_law_way", "_law_k"] (spNoCell K) := by
  refine FnG.of F sc__law_no_cell (fun vs H Q E h => ?_) (fun cdv A outer sh H vs Q E hr h => ?_)
  · obtain ⟨s, x, r, rfl, _⟩ := h; rfl
  · obtain ⟨s, x, r, rfl, hm, hr1, hu, q⟩ := h
    obtain ⟨dx, fs, e, ff, hf⟩ := hm.ho.ob
    refine ⟨_, pss_cons (ps_set (i := 3) sc__law_no_cell.nd rfl (by first | exact Or.inl rfl | exact Or.inr rfl) (pe_non))
      (pss_cons (ps_mix sc__law_no_cell.nd takes0 (fun W pn xe tk po => pss_one (ps_expr (gm m_get (hr.mono (by decide)) tk (pv 0) (pa_cons (pv 1) (pa_cons (pv 2) (pa_nil))))))
        (.as (i := 4) ⟨rfl, by decide, .inl T.g_NoCell⟩ rfl (by first | rfl | decide +kernel) (fun a oe cls d pn hz hf => pss_one (ps_set (i := 3) sc__law_no_cell.nd rfl (by first | exact Or.inl rfl | exact Or.inr rfl) (pe_xg hz hf (pv 4)))) .nil))
      (pss_one (ps_ret (pv 3)))), ?_⟩
    refine ⟨_, rfl, s.p, dx, fs, rfl, e, ff.no _ (by decide +kernel), _, rfl, _, rfl, s, r.w, r.f, r.o, (r.cells.length : Int), rfl, hm.ho, hm.lm.wl r hr1, hm.room hr1 hu fun p hp e1 e2 e3 H' k => ⟨fun yes => absurd yes (by rw [e3]; omega), fun no d H2 k2 ed => ?_⟩⟩
    refine ⟨true, T.e_NoCell_NoCell, iteT fun ax hax => ?_⟩
    exact ⟨_, rfl, rfl, _, d, _, _, _, rfl, T.x_NoCell.1, (by simp), rfl, ed, lk_f1 _, _, rfl, q H2 (k.trans k2)⟩
theorem ok_caught (T : Tx K mg) {fd : FuncData} (F : Fun K "_law_caught" "_law_caught" s__law_caught (He.ga K "_law_caught") fd) (m_size : Met P w K mg base 4 (CH K) "size" (spSize K)) (m_put : Met P w K mg base 5 (CH K) "put" (spPut K)) : FnG P w K mg base 6 (He.ga K "_law_caught") fd ["_law_house_here", "_law_rooms", "_law_way"] (spCaught K) := by
  refine FnG.of F sc__law_caught (fun vs H Q E h => ?_) (fun cdv A outer sh H vs Q E hr h => ?_)
  · obtain ⟨s, lr, q, a, b, rs, rfl, _⟩ := h; rfl
  · obtain ⟨s, lr, q', a, b, rs, rfl, ho, elr, hrs, rl, eq, no, q⟩ := h
    obtain ⟨dx, fs, e, ff, hf⟩ := ho.ob
    refine ⟨_, pss_cons (ps_set (i := 3) sc__law_caught.nd rfl (by first | exact Or.inl rfl | exact Or.inr rfl) (pe_lst (pa_nil)))
      (pss_cons (ps_mix sc__law_caught.nd takes0 (fun W pn xe tk po => pss_one (ps_expr (gm m_size (hr.mono (by decide)) tk (pv 0) (pa_cons (pv 2) (pa_nil)))))
        (.as (i := 4) ⟨rfl, by decide, .inl T.g_NoWay⟩ rfl (by first | rfl | decide +kernel) (fun a oe cls d pn hz hf => pss_one (ps_expr (kbm K PySem.F.plainAttrs_list PySem.F.slot_list_append PySem.F.type_list_append mt_append (pv 3) (pa_cons (pe_lst (pa_cons (pe_str) (pa_cons (pe_xg hz hf (pv 4)) (pa_nil)))) (pa_nil))))) .nil))
      (pss_cons (ps_for (passes_of rfl) rfl (kiL K (pv 1)) (pg_name (i := 5) sc__law_caught.nd rfl (by first | exact Or.inl rfl | exact Or.inr rfl))
        (pss_one (ps_mix sc__law_caught.nd takes0 (fun W pn xe tk po => pss_one (ps_expr (gm m_put (hr.mono (by decide)) tk (pv 0) (pa_cons (pv 5) (pa_cons (pe_int) (pa_cons (pv 2) (pa_nil)))))))
        (.as (i := 4) ⟨rfl, by decide, .inl T.g_NoValue⟩ rfl (by first | rfl | decide +kernel) (fun a oe cls d pn hz hf => pss_one (ps_expr (kbm K PySem.F.plainAttrs_list PySem.F.slot_list_append PySem.F.type_list_append mt_append (pv 3) (pa_cons (pe_lst (pa_cons (pe_str) (pa_cons (pe_xg hz hf (pv 4)) (pa_nil)))) (pa_nil))))) .nil))))
      (pss_one (ps_ret (pv 3))))), ?_⟩
    refine ⟨(by show 0 ≤ sizeLine; decide), fun lf hlf => ?_⟩
    have k1 := (Kp.refl (S := []) (H := H)).new (o := .lst []) hlf
    have e1 : upd H lf (.lst []) lf = some (.lst []) := upd_same
    generalize upd H lf (.lst []) = H1 at *
    have ho1 := ho.kp0 k1
    refine ⟨_, rfl, s.p, dx, fs, rfl, k1 _ _ e (by simp), ff.no _ (by decide +kernel), _, rfl, s, q', a, b, rfl, ho1, k1 _ _ eq (by simp), fun r hr2 z1 z2 => absurd ⟨z1, z2⟩ (no r hr2), fun r hr2 z1 z2 => absurd ⟨z1, z2⟩ (no r hr2), fun _ d H2 k2 ed => ?_⟩
    refine ⟨true, T.e_NoWay_NoWay, iteT fun ax hax => ?_⟩
    have ef2 := k2 _ _ e1 (by simp)
    refine ⟨_, rfl, .inl ⟨rfl, _, SqL.of ef2⟩, _, rfl, rfl, _, d, _, _, _, rfl, T.x_NoWay.1, (by simp), rfl, ed, lk_f1 _, (by show 2 ≤ sizeLine; decide), fun l2 hl2 => ?_⟩
    have k3 := (Kp.refl (S := []) (H := H2)).new (o := .lst [.str "way", .ref q']) hl2
    have e3 : upd H2 l2 (.lst [.str "way", .ref q']) l2 = some (.lst [.str "way", .ref q']) := upd_same
    generalize upd H2 l2 (.lst [.str "way", .ref q']) = H3 at *
    have ef3 := k3 _ _ ef2 (by simp)
    have n2 : l2 ≠ lf := (ne_of_none ef2 hl2).symm
    have K3 : Kp [] H H3 := (k1.trans k2).trans k3
    refine ⟨lf, [], _, rfl, rfl, ef3, (by show 0 < sizeLine; decide), ?_⟩
    have flf : ∀ b o, H b = some o → b ≠ lf := fun b o eb => ne_of_none eb hlf
    refine ⟨_, rfl, lr, rfl, ⟨_, SqL.of ((upd_ne (flf _ _ elr)).trans (K3 _ _ elr (by simp)))⟩, for_list (K := K) (a := lr) (xs := rs.map fun r => V.ref r.w) (fun i σ H' => ∃ v4 v5, σ = [some (.ref s.p), some (.ref lr), some (.ref q'), some (.ref lf), v4, v5] ∧ Kp [] H H' ∧
      ∃ L : List (Addr × Str), H' lf = some (.lst (L.map fun z => .ref z.1)) ∧ (∀ z ∈ L, H' z.1 = some (.lst [.str z.2, .ref q']) ∧ z.1 ≠ lf) ∧ L.map (·.2) = ("way" : Str) :: List.replicate i ("value" : Str))
      ⟨_, _, rfl, fun b o eb _ => (upd_ne (flf b o eb)).trans (K3 b o eb (by simp)), [(l2, ("way" : Str))], upd_same, fun z hz => ?_, rfl⟩ (fun i σ H' _ ⟨_, _, _, z, _⟩ => SqL.of (z _ _ elr (by simp))) ?_ ?_⟩
    · rw [List.mem_singleton] at hz; subst hz
      exact ⟨(upd_ne n2).trans e3, n2⟩
    · rintro i v σ H4 hx ⟨v4, v5, rfl, k4, L, eL, hL, wL⟩
      obtain ⟨r, hr2, rfl⟩ : ∃ r, rs[i]? = some r ∧ v = .ref r.w := by
        rw [List.getElem?_map] at hx
        cases ek : rs[i]? with
        | none => rw [ek] at hx; cases hx
        | some r => rw [ek] at hx; exact ⟨r, rfl, (Option.some.inj hx).symm⟩
      have hi := (List.getElem?_eq_some_iff.mp hr2).1
      obtain ⟨ew, p, hp, p1, p2⟩ := hrs r (List.mem_of_getElem? hr2)
      obtain ⟨hps, hpu⟩ := List.mem_filter.mp hp
      have ho4 := ho.kp0 k4
      have eq4 := k4 _ _ eq (by simp)
      refine ⟨_, rfl, s.p, dx, fs, rfl, k4 _ _ e (by simp), ff.no _ (by decide +kernel), _, rfl, _, rfl, s, r.w, r.f, r.o, 0, .ref q', rfl, ho4, k4 _ _ ew (by simp), .inr ⟨q', a, b, rfl, eq4, no⟩, fun r' hr' z1 z2 hu H5 k5 => ⟨fun _ => ⟨fun vk => ?_, fun q2 eq2 a2 b2 eh no2 d H6 k6 ed => ?_⟩, fun z => absurd ⟨by omega, by have := (ho.pl.sz r' hr').1; omega⟩ z⟩, fun r' hr' z1 z2 hu => ?_, fun z => absurd ⟨p1, p2⟩ (z p hps)⟩
      · exfalso
        rcases vk with z | ⟨_, z⟩ | ⟨r2, hr2', q2, z, e2⟩
        · cases z
        · cases z
        · cases z
          have eq5 := k5 _ _ eq4 (by simp)
          rw [e2] at eq5
          injection eq5 with eq5
          injection eq5 with eq5
          injection eq5 with z1 eq5
          injection z1 with z1
          injection eq5 with z2 _
          injection z2 with z2
          exact no r2 hr2' ⟨by omega, by omega⟩
      · refine ⟨true, T.e_NoValue_NoValue, iteT fun ax hax => ?_⟩
        have k46 := k5.trans k6
        have ef6 := k46 _ _ eL (by simp)
        refine ⟨_, rfl, .inl ⟨rfl, _, SqL.of ef6⟩, _, rfl, rfl, _, d, _, _, _, rfl, T.x_NoValue.1, (by simp), rfl, ed, lk_f1 _, (by show 2 ≤ sizeLine; decide), fun l7 hl7 => ?_⟩
        have k7 := (Kp.refl (S := []) (H := H6)).new (o := .lst [.str "value", .ref q']) hl7
        have e7 : upd H6 l7 (.lst [.str "value", .ref q']) l7 = some (.lst [.str "value", .ref q']) := upd_same
        generalize upd H6 l7 (.lst [.str "value", .ref q']) = H7 at *
        have k47 := k46.trans k7
        have ef7 := k7 _ _ ef6 (by simp)
        have n7 : l7 ≠ lf := (ne_of_none ef6 hl7).symm
        have lL : L.length = i + 1 := by have := congrArg List.length wL; simpa using this
        refine ⟨lf, _, _, rfl, rfl, ef7, (by rw [List.length_map, lL]; exact Nat.lt_of_le_of_lt (m := 1000000) (by omega) (by decide)), _, _, rfl, fun b o eb _ => (upd_ne (flf b o eb)).trans ((k4.trans k47) b o eb (by simp)), L ++ [(l7, ("value" : Str))], ?_, fun z hz => ?_, ?_⟩
        · rw [upd_same, List.map_append]; rfl
        · rcases List.mem_append.mp hz with y | y
          · exact ⟨(upd_ne (hL z y).2).trans (k47 _ _ (hL z y).1 (by simp)), (hL z y).2⟩
          · rw [List.mem_singleton] at y; subst y
            exact ⟨(upd_ne n7).trans e7, n7⟩
        · rw [List.map_append, wL, List.replicate_succ']; rfl
      · have := same_room ho.pl hr' hps (z1.trans p1.symm) (z2.trans p2.symm)
        rw [this] at hu
        rw [hpu] at hu; cases hu
    · rintro σ H4 ⟨v4, v5, rfl, k4, L, eL, hL, wL⟩
      rw [List.length_map] at wL
      exact ⟨_, rfl, q lf H4 L k4 eL (fun z hz => (hL z hz).1) wL⟩
theorem ok_apart (T : Tx K mg) {fd : FuncData} (F : Fun K "_law_apart" "_law_apart" s__law_apart (He.ga K "_law_apart") fd) (c__law_here : Cal P w K mg base 1 "_law_here" spLHere) (c__law_caught : Cal P w K mg base 6 "_law_caught" (spCaught K)) : FnG P w K mg base 8 (He.ga K "_law_apart") fd ["_law_house_here", "_law_model", "_law_others"] (spApart K) := by
  refine FnG.of F sc__law_apart (fun vs H Q E h => ?_) (fun cdv A outer sh H vs Q E hr h => ?_)
  · obtain ⟨s, x, lo, us, rfl, _⟩ := h; rfl
  · obtain ⟨s, x, lo, us, rfl, hm, hl, elo, hus, q⟩ := h
    have hlx : x.ls.length ≤ 10000 := by rw [hm.len]; exact hl
    refine ⟨_, pss_cons (ps_setLc (i := 3) (own := [("_law_way", 4)]) (g := gName 4) (tt := tYes) rfl sc__law_apart.nd rfl rfl (sw_true rfl rfl rfl (by decide +kernel)) (kiL K (pe_slice (kslL K) (gc c__law_here (hr.mono (by decide)) takes0 (pa_cons (pv 1) (pa_nil))) (po_none) (po_some (pe_int)))) (blkOk_by (own := [("_law_way", 4)]) (N := ["_law_house_here", "_law_model", "_law_others", "_law_rooms", "_law_way", "_law_other"]) (sc := defScope s__law_apart) (by decide +kernel)) (fun _ _ _ _ _ => pg_name (i := 4) sc__law_apart.nd rfl (by first | exact Or.inl rfl | exact Or.inr rfl)) (fun _ _ _ _ _ => by exact pts_nil) (fun _ _ _ _ _ => by exact pv 4))
      (pss_cons (ps_for (passes_of rfl) rfl (kiL K (pv 2)) (pg_name (i := 5) sc__law_apart.nd rfl (by first | exact Or.inl rfl | exact Or.inr rfl))
        (pss_one (ps_for (passes_of rfl) rfl (kiL K (pe_dget hr.hu (pv 5) (pe_str) (fun _ _ => rfl))) (pg_name (i := 4) sc__law_apart.nd rfl (by first | exact Or.inl rfl | exact Or.inr rfl))
        (pss_one (ps_if (pt_cmpR (knotInD K hr.u65) (pv 4) (pe_dget hr.hu (pv 1) (pe_str) (fun _ _ => rfl)) (by first | exact nomark _ | rfl)) (pss_one (ps_if (pt_cmpR (kneD K hr.r.units) (gc c__law_caught (hr.mono (by decide)) takes0 (pa_cons (pv 0) (pa_cons (pv 3) (pa_cons (pv 4) (pa_nil))))) (pe_op op_cat (pe_lst (pa_cons (pe_lst (pa_cons (pe_str) (pa_cons (pv 4) (pa_nil)))) (pa_nil))) (pe_op op_rep (pe_lst (pa_cons (pe_lst (pa_cons (pe_str) (pa_cons (pv 4) (pa_nil)))) (pa_nil))) (pe_callB (klen K) (by rfl) T.z_len PySem.boot_len (pa_cons (pv 3) (pa_nil))))) (by first | exact nomark _ | rfl)) (pss_one (ps_ret (pe_bl))) (pss_nil))) (pss_nil))))))
      (pss_one (ps_ret (pe_bl)))), ?_⟩
    refine ⟨_, rfl, x, rfl, hm.lm, by omega, hm.lt, fun l1 H1 hl1 k1 el1 => ⟨_, rfl, l1, _, rfl, SqL.of el1, fun p1 hp1 => ?_⟩⟩
    obtain ⟨rs, ers, hrs, lrs⟩ := cut_map x.here none (some 1)
    have hlh : x.here.length ≤ x.ls.length := List.length_filter_le _ _
    rw [ers]
    have k2 := (Kp.refl (S := []) (H := H1)).new (o := .lst (rs.map fun r => V.ref r.w)) hp1
    have e2 : upd H1 p1 (.lst (rs.map fun r => V.ref r.w)) p1 = some (.lst (rs.map fun r => V.ref r.w)) := upd_same
    generalize upd H1 p1 (.lst (rs.map fun r => V.ref r.w)) = H2 at *
    refine ⟨p1, rfl, ⟨_, SqL.of e2⟩, fun D hD => ?_⟩
    have neD : ∀ b o, H2 b = some o → b ≠ D := fun b o eb => ne_of_none eb hD
    refine lc_list (K := K) (a := p1) (xs := rs.map fun r => V.ref r.w) (fun i H3 => Kp [] H2 H3 ∧ H3 D = some (.lst ((rs.take i).map fun r => V.ref r.w)))
      ⟨fun b o eb _ => (upd_ne (neD b o eb)).trans eb, upd_same⟩ (fun i H3 _ ⟨k3, _⟩ => SqL.of (k3 _ _ e2 (by simp))) ?_ ?_
    · rintro i v H3 hx ⟨k3, eD⟩
      obtain ⟨r, hr2, rfl⟩ : ∃ r, rs[i]? = some r ∧ v = .ref r.w := by
        rw [List.getElem?_map] at hx
        cases ek : rs[i]? with
        | none => rw [ek] at hx; cases hx
        | some r => rw [ek] at hx; exact ⟨r, rfl, (Option.some.inj hx).symm⟩
      have hi := (List.getElem?_eq_some_iff.mp hr2).1
      refine ⟨rfl, _, rfl, _, eD, ?_, fun b o eb _ => (upd_ne (neD b o eb)).trans (k3 b o eb (by simp)), ?_⟩
      · rw [List.length_map, List.length_take]
        exact Nat.lt_of_le_of_lt (m := 1000000) (by omega) (by decide)
      · rw [upd_same, List.take_succ, hr2, List.map_append]; rfl
    · rintro H3 ⟨k3, eD⟩
      rw [List.length_map, List.take_length] at eD
      have K3 := (k1.trans k2).trans k3
      refine ⟨_, rfl, lo, rfl, ⟨_, SqL.of (K3 _ _ elo (by simp))⟩, for_list (K := K) (a := lo) (xs := us.map fun u => V.ref u.m) (fun i σ H' => ∃ v4 v5, σ = [some (.ref s.p), some (.ref x.m), some (.ref lo), some (.ref D), v4, v5] ∧ Kp [] H H' ∧ H' D = some (.lst (rs.map fun r => V.ref r.w)))
        ⟨_, _, rfl, K3, eD⟩ (fun i σ H' _ ⟨_, _, _, z, _⟩ => SqL.of (z _ _ elo (by simp))) ?_ ?_⟩
      · rintro i v σ H4 hx ⟨v4, v5, rfl, k4, eD4⟩
        obtain ⟨u, hu2, rfl⟩ : ∃ u, us[i]? = some u ∧ v = .ref u.m := by
          rw [List.getElem?_map] at hx
          cases ek : us[i]? with
          | none => rw [ek] at hx; cases hx
          | some u => rw [ek] at hx; exact ⟨u, rfl, (Option.some.inj hx).symm⟩
        have yu := hus u (List.mem_of_getElem? hu2)
        have yu4 := yu.kp0 k4
        refine ⟨_, rfl, u.m, _, rfl, yu4.getW, u.mw, rfl, ⟨_, SqL.of yu4.lw⟩, for_list (K := K) (a := u.mw) (xs := u.ls.map fun r => V.ref r.w) (fun i σ H' => ∃ v4 v5, σ = [some (.ref s.p), some (.ref x.m), some (.ref lo), some (.ref D), v4, v5] ∧ Kp [] H H' ∧ H' D = some (.lst (rs.map fun r => V.ref r.w)))
          ⟨_, _, rfl, k4, eD4⟩ (fun i σ H' _ ⟨_, _, _, z, _⟩ => SqL.of (z _ _ yu.lw (by simp))) ?_ ?_⟩
        · rintro j v σ H5 hy ⟨v6, v7, rfl, k5, eD5⟩
          obtain ⟨r, hr2, rfl⟩ : ∃ r, u.ls[j]? = some r ∧ v = .ref r.w := by
            rw [List.getElem?_map] at hy
            cases ek : u.ls[j]? with
            | none => rw [ek] at hy; cases hy
            | some r => rw [ek] at hy; exact ⟨r, rfl, (Option.some.inj hy).symm⟩
          have hru := List.mem_of_getElem? hr2
          have hm5 := hm.kp0 k5
          have ew5 := k5 _ _ (yu.wl r hru) (by simp)
          refine ⟨_, rfl, _, rfl, x.m, _, rfl, hm5.lm.getW, wayD r.f r.o, waysD x.ls, dp_way ew5, .lst (SqL.of hm5.lm.lw) (ways_dp x.ls hm5.lm.wl), shaped_way _ _, shaped_ways _, _, rfl, iteB (fun z => ?_) (fun z => ?_)⟩
          · have no : ∀ r' ∈ s.rs, ¬ (r'.f = r.f ∧ r'.o = r.o) := fun r' hr' ⟨z1, z2⟩ => by
              obtain ⟨p, hp, p1, p2, _⟩ := rho_mem hm.er.symm hr'
              have hin : wayD r.f r.o ∈ waysD x.ls := by
                unfold waysD
                refine List.mem_map.mpr ⟨pk p, List.mem_map.mpr ⟨p, hp, rfl⟩, ?_⟩
                show wayD p.f p.o = _
                rw [p1, p2, z1, z2]
              have t : ((waysD x.ls).any fun y => PyData.eqv y (wayD r.f r.o)) = true := List.any_eq_true.mpr ⟨_, hin, eqv_self (shaped_way _ _)⟩
              rw [t] at z; cases z
            refine ⟨_, rfl, _, rfl, _, rfl, s, D, r.w, r.f, r.o, rs, rfl, hm5.ho, eD5, fun r' hr' => ?_, by omega, ew5, no, fun l H6 L k6 el6 hL wL => ?_⟩
            · have hh := hrs r' hr'
              obtain ⟨h1, h2⟩ := List.mem_filter.mp hh
              refine ⟨hm5.lm.wl r' h1, ?_⟩
              obtain ⟨p, hp, p1, p2, _⟩ := rho_mem hm.eHere hh
              exact ⟨p, hp, p1, p2⟩
            refine ⟨_, rfl, (by show 2 ≤ sizeLine; decide), fun a1 ha1 => ⟨(by show 1 ≤ sizeLine; decide), fun a2 ha2 => ⟨_, rfl, (by show 2 ≤ sizeLine; decide), fun a3 ha3 => ⟨(by show 1 ≤ sizeLine; decide), fun a4 ha4 => ?_⟩⟩⟩⟩
            have j1 := (Kp.refl (S := []) (H := H6)).new (o := .lst [.str "way", .ref r.w]) ha1
            have g1 : upd H6 a1 (.lst [.str "way", .ref r.w]) a1 = some (.lst [.str "way", .ref r.w]) := upd_same
            generalize upd H6 a1 (.lst [.str "way", .ref r.w]) = G1 at *
            have j2 := (Kp.refl (S := []) (H := G1)).new (o := .lst [.ref a1]) ha2
            have g2 : upd G1 a2 (.lst [.ref a1]) a2 = some (.lst [.ref a1]) := upd_same
            generalize upd G1 a2 (.lst [.ref a1]) = G2 at *
            have j3 := (Kp.refl (S := []) (H := G2)).new (o := .lst [.str "value", .ref r.w]) ha3
            have g3 : upd G2 a3 (.lst [.str "value", .ref r.w]) a3 = some (.lst [.str "value", .ref r.w]) := upd_same
            generalize upd G2 a3 (.lst [.str "value", .ref r.w]) = G3 at *
            have j4 := (Kp.refl (S := []) (H := G3)).new (o := .lst [.ref a3]) ha4
            have g4 : upd G3 a4 (.lst [.ref a3]) a4 = some (.lst [.ref a3]) := upd_same
            generalize upd G3 a4 (.lst [.ref a3]) = G4 at *
            have j14 := ((j1.trans j2).trans j3).trans j4
            have lr1 : rs.length ≤ 10000 := by omega
            refine ⟨_, rfl, D, _, rfl, .inl (SqL.of ((k6.trans j14) _ _ eD5 (by simp))), a4, _, [.ref a3], rfl, rfl, g4, by omega, by rw [List.length_map]; omega, (by rw [List.length_map, Int.toNat_natCast]; exact Nat.le_trans (by show 1 * rs.length ≤ 10000; omega) (by decide : 10000 ≤ sizeLine)), fun a5 ha5 => ?_⟩
            rw [List.length_map, Int.toNat_natCast, rep_one]
            have j5 := (Kp.refl (S := []) (H := G4)).new (o := .lst (List.replicate rs.length (.ref a3))) ha5
            have g5 : upd G4 a5 (.lst (List.replicate rs.length (.ref a3))) a5 = some (.lst (List.replicate rs.length (.ref a3))) := upd_same
            generalize upd G4 a5 (.lst (List.replicate rs.length (.ref a3))) = G5 at *
            refine ⟨a2, a5, _, _, rfl, rfl, (((j3.trans j4).trans j5) _ _ g2 (by simp)), g5, (by rw [List.length_replicate]; exact Nat.le_trans (by show 1 + rs.length ≤ 10001; omega) (by decide : 10001 ≤ sizeLine)), fun a6 ha6 => ?_⟩
            have j6 := (Kp.refl (S := []) (H := G5)).new (o := .lst ([.ref a1] ++ List.replicate rs.length (.ref a3))) ha6
            have g6 : upd G5 a6 (.lst ([.ref a1] ++ List.replicate rs.length (.ref a3))) a6 = some (.lst ([.ref a1] ++ List.replicate rs.length (.ref a3))) := upd_same
            generalize upd G5 a6 (.lst ([.ref a1] ++ List.replicate rs.length (.ref a3))) = G6 at *
            have jj := (j14.trans j5).trans j6
            have ew6 := (k6.trans jj) _ _ ew5 (by simp)
            have d1 := told_dp (K := K) ew6 L fun z hz => jj _ _ (hL z hz) (by simp)
            have d2 := told_dp (K := K) ew6 ((a1, ("way" : Str)) :: List.replicate rs.length (a3, ("value" : Str))) fun z hz => by
              rcases List.mem_cons.mp hz with y | y
              · rw [y]; exact (((((j2.trans j3).trans j4).trans j5).trans j6) _ _ g1 (by simp))
              · rw [List.eq_of_mem_replicate y]; exact (((j4.trans j5).trans j6) _ _ g3 (by simp))
            have w2 : ((a1, ("way" : Str)) :: List.replicate rs.length (a3, ("value" : Str))).map (·.2) = ("way" : Str) :: List.replicate rs.length ("value" : Str) := by rw [List.map_cons, List.map_replicate]
            have w3 : ((a1, ("way" : Str)) :: List.replicate rs.length (a3, ("value" : Str))).map (fun z => V.ref z.1) = [.ref a1] ++ List.replicate rs.length (.ref a3) := by rw [List.map_cons, List.map_replicate]; rfl
            rw [wL] at d1
            rw [w2, w3] at d2
            refine ⟨_, _, .lst (SqL.of (jj _ _ el6 (by simp))) d1, .lst (SqL.of g6) d2, shaped_told _ _ _, shaped_told _ _ _, _, rfl, ?_⟩
            rw [eqv_self (shaped_told _ _ _)]
            exact iteF ⟨_, _, rfl, (k5.trans k6).trans jj, (k6.trans jj) _ _ eD5 (by simp)⟩
          · exact ⟨_, _, rfl, k5, eD5⟩
        · rintro σ H5 ⟨v6, v7, rfl, k5, eD5⟩
          exact ⟨_, _, rfl, k5, eD5⟩
      · rintro σ H4 ⟨v4, v5, rfl, k4, eD4⟩
        exact q H4 k4
end

end Lw
namespace Lw
open PySem PySem.Spec L2 FG
open PyProof.Rows hiding St
/-! ### pictures of both are the same -/
theorem cnt_le : ∀ (fs : List Nat) (l : List Rm), fs.Nodup → (fs.map fun f => (l.filter fun r => decide (r.f = f)).length).sum ≤ l.length := by
  intro fs
  induction fs with
  | nil => intro l _; simp
  | cons f fs ih =>
    intro l hn
    obtain ⟨h1, h2⟩ := List.nodup_cons.mp hn
    have z := ih (l.filter fun r => !decide (r.f = f)) h2
    have e : (fs.map fun g => ((l.filter fun r => !decide (r.f = f)).filter fun r => decide (r.f = g)).length) = fs.map fun g => (l.filter fun r => decide (r.f = g)).length := by
      refine List.map_congr_left fun g hg => ?_
      rw [List.filter_filter]
      congr 1
      refine List.filter_congr fun r _ => ?_
      by_cases c : r.f = g
      · have n : r.f ≠ f := fun d => h1 (by rw [← d, c]; exact hg)
        simp [c, c ▸ n]
      · simp [c]
    rw [e] at z
    have s : (l.filter fun r => decide (r.f = f)).length + (l.filter fun r => !decide (r.f = f)).length = l.length := by
      clear z e
      induction l with
      | nil => rfl
      | cons a l il =>
        by_cases c : a.f = f
        · simp [c]; omega
        · simp [c]; omega
    rw [List.map_cons, List.sum_cons]; omega
theorem bulk_sum {g : Nat → PyData} {c : Nat → Nat} : ∀ fs : List Nat, (∀ f ∈ fs, (g f).bulk + 1 ≤ 4 + 19 * c f) → PyData.bulkAll (fs.map g) ≤ 4 * fs.length + 19 * (fs.map c).sum
  | [], _ => by simp only [List.map_nil, PyData.bulkAll, List.length_nil, List.sum_nil]; omega
  | f :: fs, h => by
    have h1 := h f (by simp)
    have h2 := bulk_sum fs fun x hx => h x (by simp [hx])
    simp only [List.map_cons, PyData.bulkAll, List.length_cons, List.sum_cons]; omega
theorem stand_nodup (ts : List (Option Int)) : (stand ts).Nodup := by
  unfold stand
  exact List.filter_sublist.nodup List.nodup_range
structure CdOk (K : PySem.W.Frag) (H : Hp) (ls : List Rm) (cd : List V → List PyData) : Prop where
  z : ∀ xs, (∀ v ∈ xs, ValM ls v) → (∀ H', TK H H' → DpAll K H' xs (cd xs)) ∧ okDs (cd xs) = true ∧ PyData.bulkAll (cd xs) ≤ 3 * xs.length ∧ PyData.depthAll (cd xs) ≤ 1
section
variable {K : PySem.W.Frag} {H : Hp} {s : HSt} {x : LSt}
theorem HM.cd (y : HM K H s x) (hl : s.rs.length ≤ 10000) : ∃ cd, CdOk K H x.ls cd := by
  have ch := cells_d (K := K) y.lm (y.small hl).2
  refine ⟨fun xs => open Classical in if h : (∀ v ∈ xs, ValM x.ls v) then Classical.choose (ch xs h) else [], ⟨fun xs h => ?_⟩⟩
  rw [dif_pos h]
  exact Classical.choose_spec (ch xs h)
theorem HM.cdS (y : HM K H s x) {cd : List V → List PyData} (c : CdOk K H x.ls cd) : ∀ r ∈ s.rs, ((∀ H', TK H H' → DpAll K H' r.cells (cd r.cells)) ∧ okDs (cd r.cells) = true ∧ PyData.bulkAll (cd r.cells) ≤ 18 ∧ PyData.depthAll (cd r.cells) ≤ 1) := fun r hr => by
  obtain ⟨q, hq, _, _, e3⟩ := rho_mem y.er.symm hr
  obtain ⟨a, b, d, g⟩ := c.z q.cells (y.vm q hq)
  rw [e3] at a b d g
  have := (y.ho.pl.sz r hr).2
  exact ⟨a, b, by omega, g⟩
theorem HM.cdX (y : HM K H s x) {cd : List V → List PyData} (c : CdOk K H x.ls cd) : ∀ r ∈ x.ls, ∀ H', TK H H' → DpAll K H' r.cells (cd r.cells) := fun r hr => (c.z r.cells (y.vm r hr)).1
theorem HM.pic (y : HM K H s x) (cd : List V → List PyData) : lpicD x cd = picD s cd := by
  unfold lpicD picD
  rw [y.lim, y.et]
  have e : lpicF x cd = picF s cd := by
    funext f
    unfold lpicF picF
    rw [y.eh]
    have e2 : (x.giv f).map (picR cd) = (s.giv f).map (picR cd) := by
      have z : ∀ l : List Rm, l.map (picR cd) = (l.map rho).map fun t => PyData.tuple (cd t.2.2) := fun l => by rw [List.map_map]; rfl
      rw [z, z, y.eGiv f]
    rw [e2]
  rw [e]
theorem HM.picOk (y : HM K H s x) (hl : s.rs.length ≤ 10000) {cd : List V → List PyData} (c : CdOk K H x.ls cd) : OkT (picD s cd) 300000 6 := by
  have wf := y.ho.wf
  have wl := wf.len
  have ws := wf.small
  have e38 : (10 : Nat) ^ 38 = 100000000000000000000000000000000000000 := by decide
  have R : ∀ r ∈ s.rs, OkT (picR cd r) 18 2 := fun r hr => by
    obtain ⟨_, b, d, g⟩ := y.cdS c r hr
    exact ⟨by simp only [picR, okD]; exact b, by simp only [picR, PyData.bulk]; exact d, by simp only [picR, PyData.depth]; omega⟩
  have Rs : ∀ f, okDs ((s.giv f).map (picR cd)) = true ∧ PyData.bulkAll ((s.giv f).map (picR cd)) ≤ 19 * (s.giv f).length ∧ PyData.depthAll ((s.giv f).map (picR cd)) ≤ 2 := fun f => by
    obtain ⟨a, b, d⟩ := all_ok (N := 18) (M := 2) (ds := (s.giv f).map (picR cd)) fun u hu => by
      obtain ⟨r, hr, rfl⟩ := List.mem_map.mp hu
      exact R r (mem_giv.mp hr).1
    rw [List.length_map] at b
    exact ⟨a, b, d⟩
  have Fs : ∀ f ∈ stand s.ts, OkT (picF s cd f) 250000 4 ∧ (picF s cd f).bulk + 1 ≤ 4 + 19 * (s.giv f).length := fun f hf => by
    obtain ⟨a, b, d⟩ := Rs f
    have le : (s.giv f).length ≤ s.rs.length := List.length_filter_le _ _
    have hfl := stand_lt hf
    have o := okT_enc (o := s.hs[f]?.getD none) fun i hi => tok_hs (n := f) wf (i := i) (by
      cases e : s.hs[f]? with
      | none => rw [e] at hi; cases hi
      | some o => rw [e] at hi; exact congrArg some hi)
    have n := okT_nat (n := f) (by omega)
    have n1 : (pnint f).bulk = 0 := by simp only [pnint, PyData.bulk]
    have n2 : (pnint f).depth = 0 := by simp only [pnint, PyData.depth]
    have o1 := o.b
    have o2 := o.h
    have bk : (picF s cd f).bulk + 1 ≤ 4 + 19 * (s.giv f).length := by simp only [picF, PyData.bulk, PyData.bulkAll, n1]; omega
    refine ⟨⟨by simp only [picF, okD, okDs, n.ok, o.ok, a, Bool.and_self], by omega, by simp only [picF, PyData.depth, PyData.depthAll, n2]; omega⟩, bk⟩
  obtain ⟨a, _, d⟩ := all_ok (N := 250000) (M := 4) (ds := (stand s.ts).map (picF s cd)) fun u hu => by
    obtain ⟨f, hf, rfl⟩ := List.mem_map.mp hu
    exact (Fs f hf).1
  have b := bulk_sum (g := picF s cd) (c := fun f => (s.giv f).length) (stand s.ts) fun f hf => (Fs f hf).2
  have b2 : ((stand s.ts).map fun f => (s.giv f).length).sum ≤ s.rs.length := cnt_le _ s.rs (stand_nodup s.ts)
  have sl := stand_len s.ts
  have mo := y.ho.pl.mo
  have n := okT_nat (n := s.most) (by omega)
  have n1 : (pnint s.most).bulk = 0 := by simp only [pnint, PyData.bulk]
  have n2 : (pnint s.most).depth = 0 := by simp only [pnint, PyData.depth]
  exact ⟨by simp only [picD, okD, okDs, n.ok, a, Bool.and_self], by simp only [picD, PyData.bulk, PyData.bulkAll, n1]; omega, by simp only [picD, PyData.depth, PyData.depthAll, n2]; omega⟩
end
theorem OkT.shw {K : PySem.W.Frag} {H : Hp} {v : V} {d : PyData} {N M : Nat} (o : OkT d N M) (h : Dp K H v d) (hN : N ≤ 300000) (hM : M ≤ 60) : Shw K H v d := shw_at h o.ok (Nat.le_trans o.b hN) (Nat.le_trans o.h hM)
theorem okT2 {d e : PyData} {N N' M M' : Nat} (a : OkT d N M) (b : OkT e N' M') : OkT (.list [d, e]) (N + N' + 2) (max M M' + 1) :=
  OkT.lstN (by simp only [okDs, a.ok, b.ok, Bool.and_self]) (by have := a.b; have := b.b; simp only [PyData.bulkAll]; omega) (by have := a.h; have := b.h; simp only [PyData.depthAll]; omega)
theorem dps_nats {K : PySem.W.Frag} {H : Hp} : ∀ xs : List Nat, DpAll K H (xs.map nint) (xs.map pnint)
  | [] => .nil
  | x :: xs => .cons (.int x) (dps_nats xs)
theorem dps_encs {K : PySem.W.Frag} {H : Hp} : ∀ ts : List (Option Int), DpAll K H (ts.map enc) (ts.map encD)
  | [] => .nil
  | t :: ts => .cons (dp_enc1 t) (dps_encs ts)
theorem ne_self (u : V) : (!decide (u = u)) = false := by simp
theorem enc_scal (a b : Option Int) : scal (enc a) (enc b) = true := by cases a <;> cases b <;> rfl
theorem iteF_ne {v : V} {A B : Prop} (h : B) : if (!decide (v = v)) = true then A else B := by rw [decide_eq_true rfl]; exact iteF h

end Lw
namespace Lw
open PySem PySem.Spec L2 FG
open PyProof.Rows hiding St
/-! ### all of both is the same -/
theorem okT_int {z : Int} (h : z.natAbs < 1000000000) : OkT (.int z) 0 0 := by
  have e38 : (10 : Nat) ^ 38 = 100000000000000000000000000000000000000 := by decide
  exact ⟨by simp only [okD, decide_eq_true_eq, e38]; omega, by simp only [PyData.bulk]; omega, by simp only [PyData.depth]; omega⟩
def sixD (s : HSt) : PyData := .list [.int (s.used : Int), .int ((s.most : Int) - s.used), pnint s.most, pnint s.top, .list ((stand s.ts).map pnint), .int ((s.hs.length : Int) - 1)]
theorem six_ok {C : Addr} {H : Hp} {s : HSt} (y : HoAt C H s) : OkT (sixD s) 120 3 := by
  have wf := y.wf
  have wl := wf.len
  have ws := wf.small
  have mo := y.pl.mo
  have tp := y.pl.tp
  have tm := y.pl.tm
  have sl := stand_len s.ts
  have a1 := okT_int (z := (s.used : Int)) (by omega)
  have a2 := okT_int (z := (s.most : Int) - s.used) (by omega)
  have a3 := okT_nat (n := s.most) (by omega)
  have a4 := okT_nat (n := s.top) (by omega)
  have a5 := okT_nats (xs := stand s.ts) (N := 101) (fun z hz => by have := stand_lt hz; omega) (by omega)
  have a6 := okT_int (z := (s.hs.length : Int) - 1) (by omega)
  have b1 := a1.b
  have b2 := a2.b
  have b3 := a3.b
  have b4 := a4.b
  have b5 := a5.b
  have b6 := a6.b
  have c1 := a1.h
  have c2 := a2.h
  have c3 := a3.h
  have c4 := a4.h
  have c5 := a5.h
  have c6 := a6.h
  unfold sixD
  refine OkT.lstN (M := 2) ?_ ?_ ?_
  · simp only [okDs, a1.ok, a2.ok, a3.ok, a4.ok, a5.ok, a6.ok, Bool.and_self]
  · simp only [PyData.bulkAll]; omega
  · simp only [PyData.depthAll]; omega
theorem six_dp {K : PySem.W.Frag} {H : Hp} {s : HSt} {l a : Addr} (e : H l = some (.lst [.int (s.used : Int), .int ((s.most : Int) - s.used), nint s.most, nint s.top, .ref a, .int ((s.hs.length : Int) - 1)])) (ea : H a = some (.lst ((stand s.ts).map nint))) : Dp K H (.ref l) (sixD s) :=
  .lst (SqL.of e) (.cons (.int _) (.cons (.int _) (.cons (.int _) (.cons (.int _) (.cons (.lst (SqL.of ea) (dps_nats _)) (.cons (.int _) .nil))))))
def spRR (K : PySem.W.Frag) : Sp := fun vs H Q _ => ∃ (s : HSt) (x : LSt), vs = [.ref s.p, .ref x.m] ∧ HM K H s x ∧ s.rs.length ≤ 10000 ∧ ∀ H', Kp [] H H' → Q (.bl true) H'
def spRight (K : PySem.W.Frag) : Sp := fun vs H Q _ => ∃ (s : HSt) (x : LSt), vs = [.ref s.p, .ref x.m] ∧ HM K H s x ∧ s.rs.length ≤ 5000 ∧ ∀ H', Kp (s.own ++ x.foot) H H' → Q (.bl true) H'
section
variable {P : Program} {w : World} {K : PySem.W.Frag} {mg : Str → Option Value} {base : Heap}
theorem ok_rr (T : Tx K mg) {fd : FuncData} (F : Fun K "_law_rooms_right" "_law_rooms_right" s__law_rooms_right (He.ga K "_law_rooms_right") fd) (m_inside : Met P w K mg base 4 (CH K) "inside" (spInside (CH K))) (M : HoM P w K mg base)
    (c__law_row : Cal P w K mg base 1 "_law_row" spLRow) (c__law_here : Cal P w K mg base 1 "_law_here" spLHere) (c__law_no_cell : Cal P w K mg base 6 "_law_no_cell" (spNoCell K)) : FnG P w K mg base 8 (He.ga K "_law_rooms_right") fd ["_law_house_here", "_law_model"] (spRR K) := by
  have m_row := M.row
  have m_size := M.size
  have m_cells := M.cells
  refine FnG.of F sc__law_rooms_right (fun vs H Q E h => ?_) (fun cdv A outer sh H vs Q E hr h => ?_)
  · obtain ⟨s, x, rfl, _⟩ := h; rfl
  · obtain ⟨s, x, rfl, hm, hl, q⟩ := h
    have wf := hm.ho.wf
    have wl := wf.len
    have ws := wf.small
    have hlx : x.ls.length ≤ 1000000 := by rw [hm.len]; omega
    obtain ⟨dx, fs, e, ff, _⟩ := hm.ho.ob
    have el' : (s.hs.map enc).length = s.hs.length := List.length_map _
    refine ⟨_, pss_cons (ps_for (passes_of rfl) rfl (pi_range1 rfl T.z_range (pa_cons (pe_callB (klen K) (by rfl) T.z_len PySem.boot_len (pa_cons (pe_dget hr.hu (pv 1) (pe_str) (fun _ _ => rfl)) (pa_nil))) (pa_nil))) (pg_name (i := 2) sc__law_rooms_right.nd rfl (by first | exact Or.inl rfl | exact Or.inr rfl))
        (pss_one (ps_if (pt_cmpR op_ne (krepr K hr T.z_repr (pe_lst (pa_cons (gm m_inside (hr.mono (by decide)) takes0 (pv 0) (pa_cons (pv 2) (pa_nil))) (pa_cons (gm m_row (hr.mono (by decide)) takes0 (pv 0) (pa_cons (pv 2) (pa_nil))) (pa_nil))))) (krepr K hr T.z_repr (pe_lst (pa_cons (pe_ix (kixL K) (pe_dget hr.hu (pv 1) (pe_str) (fun _ _ => rfl)) (pv 2) (fun _ _ => rfl)) (pa_cons (gc c__law_row (hr.mono (by decide)) takes0 (pa_cons (pv 1) (pa_cons (pv 2) (pa_nil)))) (pa_nil))))) (by first | exact nomark _ | rfl)) (pss_one (ps_ret (pe_bl))) (pss_nil))))
      (pss_cons (ps_for (passes_of rfl) rfl (kiL K (gc c__law_here (hr.mono (by decide)) takes0 (pa_cons (pv 1) (pa_nil)))) (pg_name (i := 3) sc__law_rooms_right.nd rfl (by first | exact Or.inl rfl | exact Or.inr rfl))
        (pss_cons (ps_set (i := 4) sc__law_rooms_right.nd rfl (by first | exact Or.inl rfl | exact Or.inr rfl) (pe_dget hr.hu (pe_dget hr.hu (pv 1) (pe_str) (fun _ _ => rfl)) (pv 3) (fun _ _ => rfl)))
      (pss_cons (ps_if (pt_cmpR op_ne (krepr K hr T.z_repr (pe_lst (pa_cons (gm m_size (hr.mono (by decide)) takes0 (pv 0) (pa_cons (pv 3) (pa_nil))) (pa_cons (gm m_cells (hr.mono (by decide)) takes0 (pv 0) (pa_cons (pv 3) (pa_nil))) (pa_nil))))) (krepr K hr T.z_repr (pe_lst (pa_cons (pe_callB (klen K) (by rfl) T.z_len PySem.boot_len (pa_cons (pv 4) (pa_nil))) (pa_cons (pv 4) (pa_nil))))) (by first | exact nomark _ | rfl)) (pss_one (ps_ret (pe_bl))) (pss_nil))
      (pss_one (ps_if (pt_cmpR op_ne (gc c__law_no_cell (hr.mono (by decide)) takes0 (pa_cons (pv 0) (pa_cons (pv 3) (pa_cons (pe_callB (klen K) (by rfl) T.z_len PySem.boot_len (pa_cons (pv 4) (pa_nil))) (pa_nil))))) (pe_callB (klen K) (by rfl) T.z_len PySem.boot_len (pa_cons (pv 4) (pa_nil))) (by first | exact nomark _ | rfl)) (pss_one (ps_ret (pe_bl))) (pss_nil))))))
      (pss_one (ps_ret (pe_bl)))), ?_⟩
    refine ⟨_, rfl, x.m, _, rfl, hm.md.getH, x.mh, _, rfl, .inl (SqL.of hm.md.lh), _, rfl, by omega, by omega, for_range (lo := 0) (n := _) (fun i σ H' => ∃ v2, σ = [some (.ref s.p), some (.ref x.m), v2, none, none] ∧ Kp [] H H') ⟨none, rfl, Kp.refl⟩ ?_ ?_⟩
    · rintro i σ H1 hi ⟨v2, rfl, k1⟩
      have hi2 : i < s.hs.length := by simpa using hi
      rw [Int.zero_add]
      have m1 := hm.kp0 k1
      have eh := List.getElem?_eq_getElem hi2
      have O := okT2 (okT_enc (o := s.hs[i]) fun z hz => tok_hs (n := i) wf (i := z) (by rw [eh, hz])) (okT_nats (xs := rowW s.hs i) (N := 102) (fun z hz => by have := row_lt wf (i + 1) i (by omega) hi2 z hz; omega) (by have := row_len wf (i + 1) i (by omega) hi2; omega))
      refine ⟨_, rfl, s.p, dx, fs, rfl, k1 _ _ e (by simp), ff.no _ (by decide +kernel), _, rfl, s.p, s.h, s.t, s.hs, s.ts, i, s.hs[i], rfl, m1.ho.fr, eh, ?_⟩
      refine ⟨_, rfl, s.p, dx, fs, rfl, k1 _ _ e (by simp), ff.no _ (by decide +kernel), _, rfl, s.p, s.h, s.t, s.hs, s.ts, i, rfl, m1.ho.fr, hi2, fun l2 H2 hl2 k2 el2 => ⟨(by show 2 ≤ sizeLine; decide), fun l3 hl3 => ?_⟩⟩
      have k3 := (Kp.refl (S := []) (H := H2)).new (o := .lst [enc s.hs[i], .ref l2]) hl3
      have e3 : upd H2 l3 (.lst [enc s.hs[i], .ref l2]) l3 = some (.lst [enc s.hs[i], .ref l2]) := upd_same
      generalize upd H2 l3 (.lst [enc s.hs[i], .ref l2]) = H3 at *
      have m3 := m1.kp0 (k2.trans k3)
      refine ⟨_, _, rfl, O.shw (.lst (SqL.of e3) (.cons (dp_enc1 _) (.cons (.lst (SqL.of (k3 _ _ el2 (by simp))) (dps_nats _)) .nil))) (by omega) (by omega), ?_⟩
      refine ⟨_, rfl, x.m, _, rfl, m3.md.getH, _, rfl, x.mh, _, _, _, rfl, rfl, SqL.of m3.md.lh, get_enc eh, _, rfl, _, rfl, x.kv, x.m, x.mh, x.mt, s.hs, s.ts, i, rfl, m3.md, wf, hi2, fun l4 H4 hl4 k4 el4 => ⟨(by show 2 ≤ sizeLine; decide), fun l5 hl5 => ?_⟩⟩
      have k5 := (Kp.refl (S := []) (H := H4)).new (o := .lst [enc s.hs[i], .ref l4]) hl5
      have e5 : upd H4 l5 (.lst [enc s.hs[i], .ref l4]) l5 = some (.lst [enc s.hs[i], .ref l4]) := upd_same
      generalize upd H4 l5 (.lst [enc s.hs[i], .ref l4]) = H5 at *
      refine ⟨_, _, rfl, O.shw (.lst (SqL.of e5) (.cons (dp_enc1 _) (.cons (.lst (SqL.of (k5 _ _ el4 (by simp))) (dps_nats _)) .nil))) (by omega) (by omega), rfl, _, rfl, ?_⟩
      rw [ne_self]
      exact iteF ⟨_, rfl, k1.trans ((k2.trans k3).trans (k4.trans k5))⟩
    · rintro σ H1 ⟨v2, rfl, k1⟩
      have m1 := hm.kp0 k1
      refine ⟨_, rfl, x, rfl, m1.lm, hlx, hm.lt, fun l2 H2 hl2 k2 el2 => ⟨l2, rfl, ⟨_, SqL.of el2⟩, for_list (K := K) (a := l2) (xs := x.here.map fun r => V.ref r.w) (fun i σ H' => ∃ v3 v4, σ = [some (.ref s.p), some (.ref x.m), v2, v3, v4] ∧ Kp [] H2 H') ⟨none, none, rfl, Kp.refl⟩ (fun i σ H' _ ⟨_, _, _, k⟩ => SqL.of (k _ _ el2 (by simp))) ?_ ?_⟩⟩
      · rintro i v σ H3 hx ⟨v3, v4, rfl, k3⟩
        obtain ⟨r, hr1, rfl⟩ := List.mem_map.mp (List.mem_of_getElem? hx)
        obtain ⟨hrx, hru⟩ := List.mem_filter.mp hr1
        have K3 := (k1.trans k2).trans k3
        have m3 := hm.kp0 K3
        have sz := hm.sz hrx
        obtain ⟨ds, c1, c2, c3, c4⟩ := cells_d (K := K) hm.lm (hm.small hl).2 r.cells (hm.vm r hrx)
        have O := okT2 (okT_int (z := (r.cells.length : Int)) (by omega)) (OkT.lstN (N := 18) c2 (by omega) c4)
        refine ⟨_, rfl, x.m, _, rfl, m3.lm.getC, _, rfl, x.mc, _, rfl, m3.lm.getR hrx (m3.lm.wl r hrx), ?_⟩
        refine ⟨_, rfl, s.p, dx, fs, rfl, K3 _ _ e (by simp), ff.no _ (by decide +kernel), _, rfl, s, r.w, r.f, r.o, rfl, m3.ho, m3.lm.wl r hrx, m3.room hrx hru fun p hp e1 e2 e3 H4 k4 => ?_⟩
        rw [e3]
        have K4 := K3.trans k4
        have m4 := hm.kp0 K4
        refine ⟨_, rfl, s.p, dx, fs, rfl, K4 _ _ e (by simp), ff.no _ (by decide +kernel), _, rfl, s, r.w, r.f, r.o, rfl, m4.ho, m4.lm.wl r hrx, m4.room hrx hru fun p' hp' f1 f2 f3 H5 k5 l6 H6 hl6 k6 el6 => ⟨(by show 2 ≤ sizeLine; decide), fun l7 hl7 => ?_⟩⟩
        rw [f3] at el6
        have k7 := (Kp.refl (S := []) (H := H6)).new (o := .lst [.int (r.cells.length : Int), .ref l6]) hl7
        have e7 : upd H6 l7 (.lst [.int (r.cells.length : Int), .ref l6]) l7 = some (.lst [.int (r.cells.length : Int), .ref l6]) := upd_same
        generalize upd H6 l7 (.lst [.int (r.cells.length : Int), .ref l6]) = H7 at *
        have K7 := ((K4.trans k5).trans k6).trans k7
        have m7 := hm.kp0 K7
        refine ⟨_, _, rfl, O.shw (.lst (SqL.of e7) (.cons (.int _) (.cons (.lst (SqL.of (k7 _ _ el6 (by simp))) (c1 _ K7.tk)) .nil))) (by omega) (by omega), _, rfl, r.c, _, rfl, .inl (SqL.of (m7.lm.cl r hrx)), _, rfl, (by show 2 ≤ sizeLine; decide), fun l8 hl8 => ?_⟩
        have k8 := (Kp.refl (S := []) (H := H7)).new (o := .lst [.int (r.cells.length : Int), .ref r.c]) hl8
        have e8 : upd H7 l8 (.lst [.int (r.cells.length : Int), .ref r.c]) l8 = some (.lst [.int (r.cells.length : Int), .ref r.c]) := upd_same
        generalize upd H7 l8 (.lst [.int (r.cells.length : Int), .ref r.c]) = H8 at *
        have K8 := K7.trans k8
        have m8 := hm.kp0 K8
        refine ⟨_, _, rfl, O.shw (.lst (SqL.of e8) (.cons (.int _) (.cons (.lst (SqL.of (m8.lm.cl r hrx)) (c1 _ K8.tk)) .nil))) (by omega) (by omega), rfl, _, rfl, ?_⟩
        rw [ne_self]
        refine iteF ⟨_, rfl, _, rfl, _, rfl, r.c, _, rfl, .inl (SqL.of (m8.lm.cl r hrx)), s, x, r, rfl, m8, hrx, hru, fun H9 k9 => ?_⟩
        have m9 := m8.kp0 k9
        refine ⟨_, rfl, r.c, _, rfl, .inl (SqL.of (m9.lm.cl r hrx)), rfl, _, rfl, ?_⟩
        rw [ne_self]
        exact iteF ⟨_, _, rfl, ((((k3.trans k4).trans k5).trans k6).trans k7).trans (k8.trans k9)⟩
      · rintro σ H3 ⟨v3, v4, rfl, k3⟩
        exact q H3 ((k1.trans k2).trans k3)
theorem ok_right (T : Tx K mg) {fd : FuncData} (F : Fun K "_law_right" "_law_right" s__law_right (He.ga K "_law_right") fd) (M : HoM P w K mg base) (m_begun : Met P w K mg base 1 (CH K) "begun" (spBegun (CH K))) (m_ended_by : Met P w K mg base 4 (CH K) "ended_by" (spBy (CH K)))
    (m_picture : Met P w K mg base 6 (CH K) "picture" (spPicture K)) (c__law_used : Cal P w K mg base 1 "_law_used" spLUsed) (c__law_standing : Cal P w K mg base 1 "_law_standing" spLStanding) (c__law_picture : Cal P w K mg base 3 "_law_picture" (spLPicture K))
    (c__law_by : Cal P w K mg base 5 "_law_by" (spLBy K)) (c__law_rooms_right : Cal P w K mg base 8 "_law_rooms_right" (spRR K)) (c__law_make : Cal P w K mg base 2 "_law_make" spLMake) : FnG P w K mg base 10 (He.ga K "_law_right") fd ["_law_house_here", "_law_model"] (spRight K) := by
  have m_used := M.used
  have m_left := M.left
  have m_limit := M.limit
  have m_greatest := M.greatest
  have m_standing := M.standing
  have m_make := M.make
  refine FnG.of F sc__law_right (fun vs H Q E h => ?_) (fun cdv A outer sh H vs Q E hr h => ?_)
  · obtain ⟨s, x, rfl, _⟩ := h; rfl
  · obtain ⟨s, x, rfl, hm, hl, q⟩ := h
    have wf := hm.ho.wf
    have wl := wf.len
    have ws := wf.small
    have sl := stand_len s.ts
    have hlx : x.ls.length ≤ 1000000 := by rw [hm.len]; omega
    have hlx2 : x.ls.length ≤ 100000 := by rw [hm.len]; omega
    obtain ⟨dx, fs, e, ff, _⟩ := hm.ho.ob
    obtain ⟨cd, hcd⟩ := hm.cd (by omega)
    have pO := hm.picOk (by omega) hcd
    have hcS : ∀ {H0 : Hp}, Kp [] H H0 → ∀ r ∈ s.here, ∀ H', TKq H0 H' → DpAll K H' r.cells (cd r.cells) := fun {H0} k r hr2 H' t => (hm.cdS hcd r (List.mem_filter.mp hr2).1).1 H' (k.tk.trans t)
    have hcX : ∀ {H0 : Hp}, Kp [] H H0 → ∀ r ∈ x.ls, ∀ H', TKq H0 H' → DpAll K H' r.cells (cd r.cells) := fun {H0} k r hr2 H' t => hm.cdX hcd r hr2 H' (k.tk.trans t)
    have wfx : Wf x.hs x.ts := by rw [hm.eh, hm.et]; exact wf
    refine ⟨_, pss_cons (ps_set (i := 2) sc__law_right.nd rfl (by first | exact Or.inl rfl | exact Or.inr rfl) (gc c__law_used (hr.mono (by decide)) takes0 (pa_cons (pv 1) (pa_nil))))
      (pss_cons (ps_set (i := 3) sc__law_right.nd rfl (by first | exact Or.inl rfl | exact Or.inr rfl) (pe_lst (pa_cons (pv 2) (pa_cons (pe_op op_sub (pe_dget hr.hu (pv 1) (pe_str) (fun _ _ => rfl)) (pv 2)) (pa_cons (pe_dget hr.hu (pv 1) (pe_str) (fun _ _ => rfl)) (pa_cons (pe_dget hr.hu (pv 1) (pe_str) (fun _ _ => rfl)) (pa_cons (gc c__law_standing (hr.mono (by decide)) takes0 (pa_cons (pv 1) (pa_nil))) (pa_cons (pe_op op_sub (pe_callB (klen K) (by rfl) T.z_len PySem.boot_len (pa_cons (pe_dget hr.hu (pv 1) (pe_str) (fun _ _ => rfl)) (pa_nil))) (pe_int)) (pa_nil)))))))))
      (pss_cons (ps_set (i := 4) sc__law_right.nd rfl (by first | exact Or.inl rfl | exact Or.inr rfl) (pe_lst (pa_cons (gm0 m_used (hr.mono (by decide)) takes0 (pv 0)) (pa_cons (gm0 m_left (hr.mono (by decide)) takes0 (pv 0)) (pa_cons (gm0 m_limit (hr.mono (by decide)) takes0 (pv 0)) (pa_cons (gm0 m_greatest (hr.mono (by decide)) takes0 (pv 0)) (pa_cons (gm0 m_standing (hr.mono (by decide)) takes0 (pv 0)) (pa_cons (gm0 m_begun (hr.mono (by decide)) takes0 (pv 0)) (pa_nil)))))))))
      (pss_cons (ps_if (PW.pt (pw_or (pt_cmpR op_ne (krepr K hr T.z_repr (gm0 m_picture (hr.mono (by decide)) takes0 (pv 0))) (krepr K hr T.z_repr (gc c__law_picture (hr.mono (by decide)) takes0 (pa_cons (pv 1) (pa_nil)))) (by first | exact nomark _ | rfl)) (pw_or1 (pt_cmpR op_ne (krepr K hr T.z_repr (pv 4)) (krepr K hr T.z_repr (pv 3)) (by first | exact nomark _ | rfl))))) (pss_one (ps_ret (pe_bl))) (pss_nil))
      (pss_cons (ps_if (pt_cmpR op_ne (krepr K hr T.z_repr (pe_lc (own := [("_law_k", 5)]) (g := gName 5) (tt := tYes) rfl sc__law_right.nd (pi_range1 rfl T.z_range (pa_cons (pe_callB (klen K) (by rfl) T.z_len PySem.boot_len (pa_cons (pe_dget hr.hu (pv 1) (pe_str) (fun _ _ => rfl)) (pa_nil))) (pa_nil))) (blkOk_by (own := [("_law_k", 5)]) (N := ["_law_house_here", "_law_model", "_law_used_here", "_law_due", "_law_found", "_law_k", "_law_way", "_law_frame"]) (sc := defScope s__law_right) (by decide +kernel)) (fun _ _ _ _ _ => pg_name (i := 5) sc__law_right.nd rfl (by first | exact Or.inl rfl | exact Or.inr rfl)) (fun _ _ _ _ _ => by exact pts_nil) (fun _ _ _ _ _ => by exact gm m_ended_by (hr.mono (by decide)) takes0 (pv 0) (pa_cons (pv 5) (pa_nil))))) (krepr K hr T.z_repr (pe_dget hr.hu (pv 1) (pe_str) (fun _ _ => rfl))) (by first | exact nomark _ | rfl)) (pss_one (ps_ret (pe_bl))) (pss_nil))
      (pss_cons (ps_for (passes_of rfl) rfl (kiL K (pe_dget hr.hu (pv 1) (pe_str) (fun _ _ => rfl))) (pg_name (i := 6) sc__law_right.nd rfl (by first | exact Or.inl rfl | exact Or.inr rfl))
        (pss_one (ps_if (pt_cmpR op_ne (gc c__law_by (hr.mono (by decide)) takes0 (pa_cons (pv 0) (pa_cons (pv 6) (pa_nil)))) (pe_ix (kixL K) (pe_dget hr.hu (pv 1) (pe_str) (fun _ _ => rfl)) (pe_ix (kixT K) (pv 6) (pe_int) (fun _ _ => rfl)) (fun _ _ => rfl)) (by first | exact nomark _ | rfl)) (pss_one (ps_ret (pe_bl))) (pss_nil))))
      (pss_cons (ps_if (pt_not (pt_val (gc c__law_rooms_right (hr.mono (by decide)) takes0 (pa_cons (pv 0) (pa_cons (pv 1) (pa_nil)))))) (pss_one (ps_ret (pe_bl))) (pss_nil))
      (pss_cons (ps_for (passes_of rfl) rfl (kiL K (gc c__law_standing (hr.mono (by decide)) takes0 (pa_cons (pv 1) (pa_nil)))) (pg_name (i := 7) sc__law_right.nd rfl (by first | exact Or.inl rfl | exact Or.inr rfl))
        (pss_one (ps_if (PW.pt (pw_and (pt_cmpR op_lt (gc c__law_used (hr.mono (by decide)) takes0 (pa_cons (pv 1) (pa_nil))) (pe_dget hr.hu (pv 1) (pe_str) (fun _ _ => rfl)) (by first | exact nomark _ | rfl)) (pw_and1 (pt_cmpR (kneD K hr.r.units) (gm m_make (hr.mono (by decide)) takes0 (pv 0) (pa_cons (pv 7) (pa_cons (pe_int) (pa_nil)))) (gc c__law_make (hr.mono (by decide)) takes0 (pa_cons (pv 1) (pa_cons (pv 7) (pa_cons (pe_int) (pa_nil))))) (by first | exact nomark _ | rfl))))) (pss_one (ps_ret (pe_bl))) (pss_nil))))
      (pss_one (ps_ret (pe_cmpR op_eq (krepr K hr T.z_repr (gm0 m_picture (hr.mono (by decide)) takes0 (pv 0))) (krepr K hr T.z_repr (gc c__law_picture (hr.mono (by decide)) takes0 (pa_cons (pv 1) (pa_nil)))) (by first | exact nomark _ | rfl))))))))))), ?_⟩
    refine ⟨_, rfl, x, rfl, hm.lm, hlx, hm.lt, fun H1 k1 => ?_⟩
    have m1 := hm.kp0 k1
    refine ⟨_, rfl, _, rfl, x.m, _, rfl, m1.lm.getL, _, rfl, _, _, rfl, rfl, _, rfl, x.m, _, rfl, m1.lm.getL, _, rfl, x.m, _, rfl, m1.lm.getTop, _, rfl, x.kv, x.m, x.mh, x.mt, s.hs, s.ts, rfl, m1.md, by omega, fun l2 H2 hl2 k2 el2 => ?_⟩
    have m2 := m1.kp0 k2
    refine ⟨_, rfl, x.m, _, rfl, m2.md.getT, x.mt, _, rfl, .inl (SqL.of m2.md.lt), _, _, rfl, rfl, (by show 6 ≤ sizeLine; decide), fun l3 hl3 => ?_⟩
    have k3 := (Kp.refl (S := []) (H := H2)).new (o := .lst [.int (szs x.here : Int), .int ((x.lim : Int) - (szs x.here : Int)), nint x.lim, nint x.top, .ref l2, .int (((s.ts.map enc).length : Nat) - 1)]) hl3
    have e3 : upd H2 l3 (.lst [.int (szs x.here : Int), .int ((x.lim : Int) - (szs x.here : Int)), nint x.lim, nint x.top, .ref l2, .int (((s.ts.map enc).length : Nat) - 1)]) l3 = some (.lst [.int (s.used : Int), .int ((s.most : Int) - s.used), nint s.most, nint s.top, .ref l2, .int ((s.hs.length : Int) - 1)]) := by
      rw [upd_same, hm.eUsed, hm.lim, hm.tp, List.length_map, wl]
    have el3 := k3 _ _ el2 (by simp)
    generalize upd H2 l3 (.lst [.int (szs x.here : Int), .int ((x.lim : Int) - (szs x.here : Int)), nint x.lim, nint x.top, .ref l2, .int (((s.ts.map enc).length : Nat) - 1)]) = H3 at *
    have K3 := (k1.trans k2).trans k3
    have m3 := hm.kp0 K3
    refine ⟨_, rfl, s.p, dx, fs, rfl, K3 _ _ e (by simp), ff.no _ (by decide +kernel), s.p, s.hd, _, rfl, m3.ho.usedAt, fun H4 k4 => ?_⟩
    have K4 := K3.trans k4
    refine ⟨_, rfl, s.p, dx, fs, rfl, K4 _ _ e (by simp), ff.no _ (by decide +kernel), s, rfl, (hm.kp0 K4).ho, fun H5 k5 => ?_⟩
    have K5 := K4.trans k5
    refine ⟨_, rfl, s.p, dx, fs, rfl, K5 _ _ e (by simp), ff.no _ (by decide +kernel), s, rfl, (hm.kp0 K5).ho, ?_⟩
    refine ⟨_, rfl, s.p, dx, fs, rfl, K5 _ _ e (by simp), ff.no _ (by decide +kernel), s, rfl, (hm.kp0 K5).ho, ?_⟩
    refine ⟨_, rfl, s.p, dx, fs, rfl, K5 _ _ e (by simp), ff.no _ (by decide +kernel), s.p, s.h, s.t, s.hs, s.ts, rfl, (hm.kp0 K5).ho.fr, fun l6 H6 hl6 k6 el6 => ?_⟩
    have K6 := K5.trans k6
    refine ⟨_, rfl, s.p, dx, fs, rfl, K6 _ _ e (by simp), ff.no _ (by decide +kernel), s.p, s.h, s.t, s.hs, s.ts, rfl, (hm.kp0 K6).ho.fr, (by show 6 ≤ sizeLine; decide), fun l7 hl7 => ?_⟩
    have k7 := (Kp.refl (S := []) (H := H6)).new (o := .lst [.int (szs s.here : Int), .int ((s.most : Int) - s.used), nint s.most, nint s.top, .ref l6, .int ((s.hs.length : Int) - 1)]) hl7
    have e7 : upd H6 l7 (.lst [.int (szs s.here : Int), .int ((s.most : Int) - s.used), nint s.most, nint s.top, .ref l6, .int ((s.hs.length : Int) - 1)]) l7 = some (.lst [.int (s.used : Int), .int ((s.most : Int) - s.used), nint s.most, nint s.top, .ref l6, .int ((s.hs.length : Int) - 1)]) := upd_same
    have el7 := k7 _ _ el6 (by simp)
    generalize upd H6 l7 (.lst [.int (szs s.here : Int), .int ((s.most : Int) - s.used), nint s.most, nint s.top, .ref l6, .int ((s.hs.length : Int) - 1)]) = H7 at *
    have K7 := K6.trans k7
    have k37 := ((k4.trans k5).trans k6).trans k7
    have m7 := hm.kp0 K7
    refine ⟨_, rfl, s.p, dx, fs, rfl, K7 _ _ e (by simp), ff.no _ (by decide +kernel), s, cd, rfl, m7.ho, by omega, hcS K7, fun v8 H8 k8 d8 => ?_⟩
    have K8 := K7.trans k8
    have m8 := hm.kp0 K8
    refine ⟨_, _, rfl, pO.shw (d8 _ (Kp.refl (S := [])).tkq) (by omega) (by omega), _, rfl, x, cd, rfl, m8.lm, hlx2, wfx, hcX K8, fun v9 H9 k9 d9 => ?_⟩
    have K9 := K8.trans k9
    have m9 := hm.kp0 K9
    rw [hm.pic] at d9
    have k79 := k8.trans k9
    refine ⟨_, _, rfl, pO.shw (d9 _ (Kp.refl (S := [])).tkq) (by omega) (by omega), rfl, _, rfl, ?_⟩
    have sO := six_ok hm.ho
    refine or_no (fun z => ⟨_, rfl, _, _, rfl, sO.shw (six_dp (k79 _ _ e7 (by simp)) (k79 _ _ el7 (by simp))) (by omega) (by omega), _, rfl, _, _, rfl, sO.shw (six_dp ((k37.trans k79) _ _ e3 (by simp)) ((k37.trans k79) _ _ el3 (by simp))) (by omega) (by omega), rfl, _, rfl, z⟩) (ne_self _) (ne_self _) ?_
    have el' : (s.ts.map enc).length = s.ts.length := List.length_map _
    refine ⟨_, rfl, x.m, _, rfl, m9.md.getT, x.mt, _, rfl, .inl (SqL.of m9.md.lt), _, rfl, by omega, by omega, fun D hD => ?_⟩
    refine lc_range (lo := 0) (n := _) (fun i H' => Kp [] H9 H' ∧ H' D = some (.lst ((s.ts.take i).map enc))) ⟨(Kp.refl (S := [])).new hD, upd_same⟩ ?_ ?_
    · rintro i H10 hi ⟨k10, eD⟩
      have hi2 : i < s.ts.length := by rw [Int.toNat_natCast] at hi; omega
      have m10 := m9.kp0 k10
      refine ⟨rfl, _, rfl, s.p, dx, fs, rfl, (K9.trans k10) _ _ e (by simp), ff.no _ (by decide +kernel), _, rfl, s.p, s.h, s.t, s.hs, s.ts, i, s.ts[i], by rw [Int.zero_add]; rfl, m10.ho.fr, List.getElem?_eq_getElem hi2, ?_⟩
      refine ⟨_, eD, ?_, fun b o eb _ => (upd_ne (ne_of_none eb hD)).trans (k10 b o eb (by simp)), ?_⟩
      · rw [List.length_map, List.length_take]; exact Nat.lt_of_le_of_lt (m := 1000) (by omega) (by decide)
      · rw [upd_same, List.take_succ, List.getElem?_eq_getElem hi2, List.map_append]; rfl
    · rintro H10 ⟨k10, eD⟩
      rw [Int.toNat_natCast, el', List.take_length] at eD
      have K10 := K9.trans k10
      have m10 := hm.kp0 K10
      have tO : OkT (.list (s.ts.map encD)) 110 1 := by
        obtain ⟨a, b, c⟩ := all_ok (N := 0) (M := 0) (ds := s.ts.map encD) fun u hu => by
          obtain ⟨o, ho, rfl⟩ := List.mem_map.mp hu
          exact okT_enc fun i hi => hm.tk i (hi ▸ ho)
        rw [List.length_map] at b
        exact OkT.lstN a (by omega) c
      refine ⟨_, _, rfl, tO.shw (.lst (SqL.of eD) (dps_encs _)) (by omega) (by omega), _, rfl, x.m, _, rfl, m10.md.getT, _, _, rfl, tO.shw (.lst (SqL.of m10.md.lt) (dps_encs _)) (by omega) (by omega), rfl, _, rfl, ?_⟩
      rw [ne_self]
      refine iteF ⟨_, rfl, x.m, _, rfl, m10.lm.getW, x.mw, rfl, ⟨_, SqL.of m10.lm.lw⟩, for_list (K := K) (a := x.mw) (xs := x.ls.map fun r => V.ref r.w) (fun i σ H' => ∃ v6, σ = [some (.ref s.p), some (.ref x.m), some (.int (szs x.here : Int)), some (.ref l3), some (.ref l7), none, v6, none] ∧ Kp [] H10 H') ⟨none, rfl, Kp.refl⟩ (fun i σ H' _ ⟨_, _, k⟩ => SqL.of (k _ _ m10.lm.lw (by simp))) ?_ ?_⟩
      · rintro i v σ H11 hx ⟨v6, rfl, k11⟩
        obtain ⟨r, hr1, rfl⟩ := List.mem_map.mp (List.mem_of_getElem? hx)
        have m11 := m10.kp0 k11
        have hrt : r.f < s.ts.length := by have := hm.lt r hr1; rw [hm.et] at this; exact this
        have et := List.getElem?_eq_getElem hrt
        obtain ⟨r', hr', f', o', _⟩ := rho_mem hm.er hr1
        refine ⟨_, rfl, _, rfl, s, r.w, r.f, r.o, rfl, m11.ho, m11.lm.wl r hr1, ⟨r', hr', f', o'⟩, fun H12 k12 => ?_⟩
        have m12 := m11.kp0 k12
        rw [et]
        refine ⟨_, rfl, x.m, _, rfl, m12.md.getT, _, rfl, r.w, _, _, _, rfl, rfl, SqT.of (m12.lm.wl r hr1), atI_nat (j := 0) rfl, x.mt, _, _, _, rfl, rfl, SqL.of m12.md.lt, get_enc et, enc_scal _ _, _, rfl, ?_⟩
        refine iteF_ne ⟨_, rfl, k11.trans k12⟩
      · rintro σ H11 ⟨v6, rfl, k11⟩
        have K11 := K10.trans k11
        have m11 := hm.kp0 K11
        refine ⟨_, rfl, _, rfl, s, x, rfl, m11, by omega, fun H12 k12 => ⟨_, rfl, iteF ?_⟩⟩
        have K12 := K11.trans k12
        have m12 := hm.kp0 K12
        refine ⟨_, rfl, x.kv, x.m, x.mh, x.mt, s.hs, s.ts, rfl, m12.md, by omega, fun l13 H13 hl13 k13 el13 => ?_⟩
        have K13 := K12.trans k13
        have m13 := hm.kp0 K13
        have nl : l13 ∉ s.own ∧ l13 ∉ x.foot := ⟨(fun z => by obtain ⟨o, eo, _⟩ := m12.ho.std _ (own_sub _ z); rw [hl13] at eo; cases eo), (fun z => by obtain ⟨o, eo, _⟩ := m12.lm.std _ z; rw [hl13] at eo; cases eo)⟩
        refine ⟨l13, rfl, ⟨_, SqL.of el13⟩, for_list (K := K) (a := l13) (xs := (stand s.ts).map nint) (fun i σ H' => ∃ v7, σ = [some (.ref s.p), some (.ref x.m), some (.int (szs x.here : Int)), some (.ref l3), some (.ref l7), none, v6, v7] ∧ Kp (s.own ++ x.foot) H13 H' ∧
          ∃ s' x', HM K H' s' x' ∧ s'.p = s.p ∧ x'.m = x.m ∧ s'.ts = s.ts ∧ s'.hs = s.hs ∧ s'.most = s.most ∧ s'.rs.length ≤ s.rs.length + i ∧ ∀ a, a ∈ s'.own ∨ a ∈ x'.foot → a ∈ s.own ∨ a ∈ x.foot ∨ H13 a = none)
          ⟨none, rfl, Kp.refl, s, x, m13, rfl, rfl, rfl, rfl, rfl, by omega, fun a ha => by rcases ha with z | z; exact .inl z; exact .inr (.inl z)⟩ (fun i σ H' _ ⟨_, _, k, _⟩ => SqL.of (k _ _ el13 (by simp [nl]))) ?_ ?_⟩
        · rintro i v σ H14 hx ⟨v7, rfl, k14, s', x', m14, p1, p2, p3, p4, p5, p6, p7⟩
          obtain ⟨f, hf, rfl⟩ : ∃ f, f ∈ stand s.ts ∧ v = nint f := by
            obtain ⟨f, hf, e⟩ := List.mem_map.mp (List.mem_of_getElem? hx)
            exact ⟨f, hf, e.symm⟩
          have hi : i < (stand s.ts).length := by have := (List.getElem?_eq_some_iff.mp hx).1; simpa using this
          have hup : s'.ts[f]? = some none := by rw [p3]; exact mem_stand.mp hf
          have hlx' : x'.ls.length ≤ 1000000 := by rw [m14.len]; omega
          obtain ⟨dx', fs', e', ff', _⟩ := m14.ho.ob
          rw [← p1, ← p2]
          refine ⟨_, rfl, x', rfl, m14.lm, hlx', m14.lt, fun H15 k15 => ?_⟩
          have m15 := m14.kp0 k15
          have k15' : Kp (s.own ++ x.foot) H13 H15 := k14.trans (k15.mono (by simp))
          refine ⟨_, rfl, x'.m, _, rfl, m15.lm.getL, _, _, rfl, rfl, _, rfl, iteB (fun z => ?_) (fun z => iteF ⟨_, rfl, k15', s', x', m15, rfl, rfl, p3, p4, p5, by omega, p7⟩)⟩
          have z1 : (szs x'.here : Int) < (x'.lim : Int) := of_decide_eq_true z
          have hroom : s'.used + 1 ≤ s'.most := by have := m15.lim; have := m15.eUsed; omega
          have e15 := k15 _ _ e' (by simp)
          refine ⟨_, rfl, s'.p, dx', fs', rfl, e15, ff'.no _ (by decide +kernel), _, rfl, s', f, 1, rfl, m15.ho, hup, by omega, by omega, by omega, (fun _ a c w H16 ha hc hw k16 ho16 => ?_), (fun z => absurd hroom (by omega))⟩
          have lm16 := m15.lmS k16 (fun a' ha' => by simp only [List.mem_cons, List.not_mem_nil, or_false] at ha' ⊢; rcases ha' with z | z | z | z | z <;> simp [z])
          refine ⟨_, rfl, _, rfl, x', f, 1, rfl, lm16, (by rw [m15.len]; omega), m15.lt, (by rw [m15.et]; exact hup), by omega, m15.fresh2, fun c2 w2 t H17 hc2 hw2 k17 lm17 ht => ?_⟩
          obtain ⟨mm, kk, gg⟩ := m15.makeO hup ha hc k16 ho16 hc2 k17 lm17 ht
          have ew := mm.ho.wl ⟨f, s'.fill f, List.replicate 1 .non, c, w⟩ (List.mem_append_right _ (List.mem_singleton.mpr rfl))
          have ew2 := mm.lm.wl ⟨f, szs (x'.giv f), List.replicate 1 .non, c2, w2⟩ (List.mem_append_right _ (List.mem_singleton.mpr rfl))
          rw [m15.eFill f] at ew2
          refine ⟨wayD f (s'.fill f), wayD f (s'.fill f), dp_way ew, dp_way ew2, shaped_way _ _, shaped_way _ _, _, rfl, ?_⟩
          rw [eqv_self (shaped_way _ _)]
          refine iteF ⟨_, rfl, fun b o eb hb => ?_, s'.made f 1 a c w, x'.made f 1 t c2 w2, mm, rfl, rfl, p3, p4, p5, ?_, fun b hb => ?_⟩
          · refine kk b o (k15' b o eb hb) fun y => ?_
            have nb : b ∉ s.own ∧ b ∉ x.foot := ⟨fun z => hb (List.mem_append_left _ z), fun z => hb (List.mem_append_right _ z)⟩
            rcases p7 b (List.mem_append.mp y) with y | y | y
            · exact nb.1 y
            · exact nb.2 y
            · rw [eb] at y; cases y
          · show (s'.rs ++ [_]).length ≤ _
            rw [List.length_append]; show s'.rs.length + 1 ≤ _; omega
          · rcases gg.2 b hb with y | y | y
            · exact p7 b (.inl y)
            · exact p7 b (.inr y)
            · by_cases c : b ∈ s.own ++ x.foot
              · rcases List.mem_append.mp c with c | c
                · exact .inl c
                · exact .inr (.inl c)
              · refine .inr (.inr ?_)
                cases eb : H13 b with
                | none => rfl
                | some o => rw [k15' b o eb c] at y; cases y
        · rintro σ H14 ⟨v7, rfl, k14, s', x', m14, p1, p2, p3, p4, p5, p6, p7⟩
          rw [List.length_map] at p6
          have l14 : s'.rs.length ≤ 10000 := by omega
          obtain ⟨dx', fs', e', ff', _⟩ := m14.ho.ob
          obtain ⟨cd', hcd'⟩ := m14.cd l14
          have pO' := m14.picOk l14 hcd'
          rw [← p1, ← p2]
          refine ⟨_, rfl, s'.p, dx', fs', rfl, e', ff'.no _ (by decide +kernel), s', cd', rfl, m14.ho, by omega, fun r hr2 H' t => (m14.cdS hcd' r (List.mem_filter.mp hr2).1).1 H' t, fun v15 H15 k15 d15 => ?_⟩
          have m15 := m14.kp0 k15
          refine ⟨_, _, rfl, pO'.shw (d15 _ (Kp.refl (S := [])).tkq) (by omega) (by omega), _, rfl, x', cd', rfl, m15.lm, (by rw [m15.len]; omega), (by rw [m15.eh, m15.et]; exact m15.ho.wf), fun r hr2 H' t => m14.cdX hcd' r hr2 H' (k15.tk.trans t), fun v16 H16 k16 d16 => ?_⟩
          rw [m14.pic] at d16
          refine ⟨_, _, rfl, pO'.shw (d16 _ (Kp.refl (S := [])).tkq) (by omega) (by omega), rfl, ?_⟩
          rw [decide_eq_true rfl]
          exact q _ ((K13.mono (by simp)).trans (k14.trans ((k15.trans k16).mono (by simp))))
end

end Lw
namespace Lw
open PySem PySem.Spec L2 FG
open PyProof.Rows hiding St
/-! ### three houses side by side -/
theorem set_at {α : Type} {l : List α} {i j : Nat} {a v : α} (h : (l.set i a)[j]? = some v) : (j = i ∧ v = a) ∨ (j ≠ i ∧ l[j]? = some v) := by
  rw [List.getElem?_set] at h
  by_cases c : i = j
  · rw [if_pos c] at h
    by_cases d : i < l.length
    · rw [if_pos d] at h
      exact .inl ⟨c.symm, (Option.some.inj h).symm⟩
    · rw [if_neg d] at h; cases h
  · rw [if_neg c] at h
    exact .inr ⟨fun z => c z.symm, h⟩
theorem set_mapS {α β : Type} (f : α → β) {l : List α} {i : Nat} {a u : α} (h : l[i]? = some u) (e : f a = f u) : (l.set i a).map f = l.map f := by
  rw [List.map_set, e]
  refine List.ext_getElem? fun j => ?_
  rw [List.getElem?_set]
  by_cases c : i = j
  · subst c
    rw [if_pos rfl, List.getElem?_map, h]
    have hi := (List.getElem?_eq_some_iff.mp h).1
    rw [List.length_map, if_pos hi]; rfl
  · rw [if_neg c]
structure LJ (K : PySem.W.Frag) (H : Hp) (N lim : Nat) (a bl ml : Addr) (ns : List Int) (us : List Hs) : Prop where
  scr : Scr K H a ns
  eb : H bl = some (.lst (us.map fun u => .ref u.s.p))
  em : H ml = some (.lst (us.map fun u => .ref u.x.m))
  l3 : us.length = 3
  bm : bl ≠ ml
  hm : ∀ (i : Nat) (u : Hs), us[i]? = some u → HM K H u.s u.x
  sm : ∀ (i : Nat) (u : Hs), us[i]? = some u → u.s.rs.length ≤ N ∧ u.s.most = lim
  nb : ∀ (i : Nat) (u : Hs), us[i]? = some u → bl ∉ u.foot ∧ ml ∉ u.foot
  dj : ∀ (i j : Nat) (u v : Hs), us[i]? = some u → us[j]? = some v → i ≠ j → ∀ c ∈ u.own, c ∉ v.foot
def Apt (b bl ml : Addr) (us : List Hs) : Prop := b ≠ bl ∧ b ≠ ml ∧ ∀ (i : Nat) (u : Hs), us[i]? = some u → b ∉ u.foot
section
variable {K : PySem.W.Frag} {H H' : Hp} {N M lim : Nat} {a bl ml b : Addr} {ns : List Int} {us : List Hs} {u u' : Hs} {n : Int} {i o : Nat}
theorem LJ.more (y : LJ K H N lim a bl ml ns us) (h : N ≤ M) : LJ K H M lim a bl ml ns us :=
  ⟨y.scr, y.eb, y.em, y.l3, y.bm, y.hm, fun i u e => ⟨Nat.le_trans (y.sm i u e).1 h, (y.sm i u e).2⟩, y.nb, y.dj⟩
theorem LJ.kp (y : LJ K H N lim a bl ml ns us) (k : Kp [b] H H') (bx : BoxAt H b n) (hb : Apt b bl ml us) : LJ K H' N lim a bl ml ns us :=
  ⟨y.scr.kp k bx.nf, k _ _ y.eb (by simpa using hb.1.symm), k _ _ y.em (by simpa using hb.2.1.symm), y.l3, y.bm, fun i u e => (y.hm i u e).kpb k bx (fun z => hb.2.2 i u e (List.mem_append_left _ z)) (fun z => hb.2.2 i u e (List.mem_append_right _ z)), y.sm, y.nb, y.dj⟩
theorem LJ.kp0 (y : LJ K H N lim a bl ml ns us) (k : Kp [] H H') : LJ K H' N lim a bl ml ns us :=
  ⟨y.scr.kp0 k, k _ _ y.eb (by simp), k _ _ y.em (by simp), y.l3, y.bm, fun i u e => (y.hm i u e).kp0 k, y.sm, y.nb, y.dj⟩
theorem LJ.apart (y : LJ K H N lim a bl ml ns us) (hb : H b = none) : Apt b bl ml us := by
  refine ⟨fun e => ?_, fun e => ?_, fun i u e z => ?_⟩
  · have := y.eb; rw [← e, hb] at this; cases this
  · have := y.em; rw [← e, hb] at this; cases this
  · obtain ⟨o, e2, _⟩ := (y.hm i u e).std b z; rw [hb] at e2; cases e2
theorem LJ.deed (y : LJ K H N lim a bl ml ns us) (hi : us[i]? = some u) (bx : BoxAt H b n) (hb : Apt b bl ml us) (k : Kp (b :: u.own) H H') (m : HM K H' u'.s u'.x) (g : Gro H u.s u.x u'.s u'.x) :
    LJ K H' (N + 1) lim a bl ml ns (us.set i u') ∧ Apt b bl ml (us.set i u') := by
  obtain ⟨g, g5⟩ := g
  obtain ⟨_, _, _, ebx, _⟩ := id bx
  have yu := y.hm i u hi
  have out : ∀ {c : Addr} {o : HO}, H c = some o → c ∉ u.foot → c ∉ u'.foot := fun {c o} e h => Grow.out (u := u) (u' := u') g e h
  have keep : ∀ {c : Addr} {o : HO}, H c = some o → c ≠ b → c ∉ u.foot → H' c = some o := fun {c o} e h1 h2 => k c o e fun z => by
    rcases List.mem_cons.mp z with z | z
    · exact h1 z
    · exact h2 (Hs.own_foot c z)
  have hT : ∀ c ∈ b :: u.own, ∀ xs, H c ≠ some (.tup xs) := fun c hc xs e => by
    rcases List.mem_cons.mp hc with z | z
    · exact bx.nt c (by rw [z]; simp) xs e
    · obtain ⟨o, e2, n2, _⟩ := yu.std (u := u) c (Hs.own_foot c z)
      rw [e] at e2; exact n2 xs (Option.some.inj e2).symm
  refine ⟨⟨y.scr.kp k fun c hc o w e => ?_, ?_, ?_, by rw [List.length_set]; exact y.l3, y.bm, fun j v hv => ?_, fun j v hv => ?_, fun j v hv => ?_, fun j l v w hv hw njl c hc hx => ?_⟩, hb.1, hb.2.1, fun j v hv => ?_⟩
  · rcases List.mem_cons.mp hc with z | z
    · exact bx.nf c (by rw [z]; simp) o w e
    · obtain ⟨o2, e2, _, n2⟩ := yu.std (u := u) c (Hs.own_foot c z)
      rw [e] at e2; exact n2 o w (Option.some.inj e2).symm
  · rw [set_mapS (fun u : Hs => V.ref u.s.p) hi (congrArg V.ref g.1)]
    exact keep y.eb hb.1.symm (y.nb i u hi).1
  · rw [set_mapS (fun u : Hs => V.ref u.x.m) hi (congrArg V.ref g.2.1)]
    exact keep y.em hb.2.1.symm (y.nb i u hi).2
  · rcases set_at hv with ⟨rfl, rfl⟩ | ⟨nj, hv⟩
    · exact m
    · have hS : ∀ c ∈ b :: u.own, c ∉ v.foot := fun c hc => by
        rcases List.mem_cons.mp hc with z | z
        · rw [z]; exact hb.2.2 j v hv
        · exact y.dj i j u v hi hv (fun z => nj z.symm) c z
      exact (y.hm j v hv).kp k (fun c hc z => hS c hc (List.mem_append_left _ z)) (fun c hc z => hS c hc (List.mem_append_right _ z)) hT
  · rcases set_at hv with ⟨rfl, rfl⟩ | ⟨nj, hv⟩
    · have := g.2.2.2.1
      have := (y.sm j u hi).1
      exact ⟨by omega, g.2.2.2.2.trans (y.sm j u hi).2⟩
    · exact ⟨Nat.le_trans (y.sm j v hv).1 (by omega), (y.sm j v hv).2⟩
  · rcases set_at hv with ⟨rfl, rfl⟩ | ⟨nj, hv⟩
    · exact ⟨out y.eb (y.nb j u hi).1, out y.em (y.nb j u hi).2⟩
    · exact y.nb j v hv
  · rcases set_at hv with ⟨rfl, rfl⟩ | ⟨nj, hv2⟩
    · rcases set_at hw with ⟨rfl, rfl⟩ | ⟨nl, hw⟩
      · exact njl rfl
      · rcases g5 c (List.mem_append.mp hc) with z | z | z
        · exact y.dj j l u w hi hw njl c (List.mem_append_left _ z) hx
        · exact y.dj j l u w hi hw njl c (List.mem_append_right _ z) hx
        · obtain ⟨o, e, _⟩ := (y.hm l w hw).std c hx
          rw [e] at z; cases z
    · have hm0 := y.hm j v hv2
      have dj0 := fun w => y.dj j l v w hv2
      clear hv
      rcases set_at hw with ⟨rfl, rfl⟩ | ⟨nl, hw2⟩
      · obtain ⟨o, e, _⟩ := hm0.std c (Hs.own_foot c hc)
        exact out e (dj0 u hi njl c hc) hx
      · exact dj0 w hw2 njl c hc hx
  · rcases set_at hv with ⟨rfl, rfl⟩ | ⟨nj, hv⟩
    · exact out ebx (hb.2.2 j u hi)
    · exact hb.2.2 j v hv
/-- the lists of the ways given are none of what may change -/
theorem HM.gsOut (y : HM K H s x) : ∀ c ∈ s.own ++ x.foot, c ∉ s.gs.map (·.2) := fun c hc hg => by
  have pl := y.ho.pl
  obtain ⟨z, hz, e⟩ := List.mem_map.mp hg
  have eg := y.ho.gl z hz
  rw [e] at eg
  obtain ⟨dx, fs, eo, _⟩ := y.ho.ob
  rcases List.mem_append.mp hc with h | h
  · rcases List.mem_append.mp h with h | h
    · simp only [List.mem_cons, List.not_mem_nil, or_false] at h
      rcases h with rfl | rfl | rfl | rfl | rfl | rfl | rfl
      · rw [eo] at eg; cases eg
      · exact pl.s1 (List.mem_append_left _ hg)
      · exact pl.s2 (List.mem_append_left _ hg)
      · rw [y.ho.gd] at eg; cases eg
      · rw [y.ho.fd] at eg; cases eg
      · rw [y.ho.sd] at eg; cases eg
      · rw [y.ho.hd] at eg; cases eg
    · exact (List.nodup_append.mp pl.sp).2.2 c hg c h rfl
  · exact y.dj c (List.mem_append_left _ (List.mem_append_right _ hg)) h
theorem HM.keys (y : HM K H s x) (hl : s.rs.length ≤ 600) : ∀ r ∈ s.rs, r.f < 128 ∧ r.o < 4096 := fun r hr => by
  have ws := y.ho.wf.small
  have a1 := y.ho.pl.fl r hr
  have a2 := y.ho.pl.ro r hr
  have a3 := y.fillLe r.f
  exact ⟨by omega, by omega⟩
theorem cp_rho {x : LSt} {p a b c d : Addr} {Z : List TwC} (e : Z.map (·.r) = x.ls) : (x.cp p a b c d Z).ls.map rho = x.ls.map rho := by
  rw [← e]
  show (Z.map TwC.nr).map rho = _
  rw [List.map_map, List.map_map]; rfl
theorem cp_vm {x : LSt} {p a b c d : Addr} {Z : List TwC} (e : Z.map (·.r) = x.ls) (h : ∀ r ∈ x.ls, ∀ v ∈ r.cells, ValM x.ls v) : ∀ r ∈ (x.cp p a b c d Z).ls, ∀ v ∈ r.cells, ValM (x.cp p a b c d Z).ls v := fun r hr v hv => by
  obtain ⟨z, hz, rfl⟩ := List.mem_map.mp hr
  have hzr : z.r ∈ x.ls := by rw [← e]; exact List.mem_map.mpr ⟨z, hz, rfl⟩
  rcases h z.r hzr v hv with q | q | ⟨r1, h1, q⟩
  · exact .inl q
  · exact .inr (.inl q)
  · rw [← e] at h1
    obtain ⟨z1, hz1, rfl⟩ := List.mem_map.mp h1
    exact .inr (.inr ⟨z1.nr, List.mem_map.mpr ⟨z1, hz1, rfl⟩, q⟩)
theorem cp_foot {x : LSt} {p a b c d : Addr} {Z : List TwC} : ∀ e ∈ (x.cp p a b c d Z).foot, e ∈ [p, a, b, c, d] ++ Z.map (·.c) := fun e he => by
  rcases List.mem_append.mp he with z | z
  · exact List.mem_append_left _ z
  · obtain ⟨r, hr, rfl⟩ := List.mem_map.mp z
    obtain ⟨t, ht, rfl⟩ := List.mem_map.mp hr
    exact List.mem_append_right _ (List.mem_map.mpr ⟨t, ht, rfl⟩)
theorem tw_own {s : HSt} {q h t gd fd sd hd : Addr} {Z : List TwC} (pl : HPl s) (e : Z.map (·.r) = s.here) : (s.twin q h t gd fd sd hd Z).own = [q, h, t, gd, fd, sd, hd] ++ Z.map (·.c) := by
  unfold HSt.own
  rw [tw_here pl e, List.map_map]; rfl
theorem tw_foot {s : HSt} {q h t gd fd sd hd : Addr} {Z : List TwC} (pl : HPl s) (e : Z.map (·.r) = s.here) : ∀ c ∈ (s.twin q h t gd fd sd hd Z).foot, c ∈ (s.twin q h t gd fd sd hd Z).own ∨ c ∈ s.gs.map (·.2) := fun c hc => by
  rcases List.mem_append.mp hc with z | z
  · rcases List.mem_append.mp z with z | z
    · exact .inl (List.mem_append_left _ z)
    · exact .inr z
  · exact .inl (List.mem_append_right _ z)
/-- one of the three becomes the twin of another -/
theorem LJ.twin {H1 H2 H3 : Hp} {q h t gd fd sd hd p1 a1 b1 c1 d1 : Addr} {Z Z1 : List TwC} (y : LJ K H N lim a bl ml ns us) (hi : us[i]? = some u) (nio : o ≠ i)
    (f1 : ∀ c ∈ [q, h, t, gd, fd, sd, hd] ++ Z.map (·.c), H c = none) (eZ : Z.map (·.r) = u.s.here) (k1 : Kp [] H H1) (ho1 : HoAt (CH K) H1 (u.s.twin q h t gd fd sd hd Z))
    (e2 : H2 = upd H1 bl (.lst ((us.map fun u => V.ref u.s.p).set o (.ref q))))
    (f3 : ∀ c ∈ [p1, a1, b1, c1, d1] ++ Z1.map (·.c), H2 c = none) (eZ1 : Z1.map (·.r) = u.x.ls) (k3 : Kp [] H2 H3) (lm3 : LmAt H3 (u.x.cp p1 a1 b1 c1 d1 Z1))
    (e4 : H' = upd H3 ml (.lst ((us.map fun u => V.ref u.x.m).set o (.ref p1)))) :
    LJ K H' N lim a bl ml ns (us.set o ⟨u.s.twin q h t gd fd sd hd Z, u.x.cp p1 a1 b1 c1 d1 Z1⟩) := by
  have yu := y.hm i u hi
  have k2 : Kp [bl] H1 H2 := fun c o e hc => by rw [e2, upd_ne (by simpa using hc)]; exact e
  have k4 : Kp [ml] H3 H' := fun c o e hc => by rw [e4, upd_ne (by simpa using hc)]; exact e
  have k14 : Kp [bl, ml] H1 H' := (k2.mono (by simp)).trans ((k3.mono (by simp)).trans (k4.mono (by simp)))
  have K4 : Kp [bl, ml] H H' := (k1.mono (by simp)).trans k14
  have fr2 : ∀ {c}, H2 c = none → H c = none := fun {c} z => by
    cases e : H c with
    | none => rfl
    | some o =>
      by_cases n : c = bl
      · rw [n, e2, upd_same] at z; cases z
      · rw [k2 c o (k1 c o e (by simp)) (by simpa using n)] at z; cases z
  have nT : ∀ c ∈ [bl, ml], ∀ xs, H c ≠ some (.tup xs) := fun c hc xs e => by
    simp only [List.mem_cons, List.not_mem_nil, or_false] at hc
    rcases hc with rfl | rfl
    · rw [y.eb] at e; cases e
    · rw [y.em] at e; cases e
  have nT1 : ∀ c ∈ [bl, ml], ∀ xs, H1 c ≠ some (.tup xs) := fun c hc xs e => by
    simp only [List.mem_cons, List.not_mem_nil, or_false] at hc
    rcases hc with rfl | rfl
    · rw [k1 _ _ y.eb (by simp)] at e; cases e
    · rw [k1 _ _ y.em (by simp)] at e; cases e
  have eOw := tw_own (q := q) (h := h) (t := t) (gd := gd) (fd := fd) (sd := sd) (hd := hd) yu.ho.pl eZ
  have no : ∀ {c : Addr} {o : HO}, H c = some o → c ∉ (u.s.twin q h t gd fd sd hd Z).own ∧ c ∉ (u.x.cp p1 a1 b1 c1 d1 Z1).foot := fun {c o} e => by
    refine ⟨fun z => ?_, fun z => ?_⟩
    · rw [eOw] at z; rw [f1 c z] at e; cases e
    · rw [fr2 (f3 c (cp_foot c z))] at e; cases e
  have bT : bl ∉ (u.s.twin q h t gd fd sd hd Z).foot ∧ ml ∉ (u.s.twin q h t gd fd sd hd Z).foot := by
    refine ⟨fun z => ?_, fun z => ?_⟩
    · rcases tw_foot yu.ho.pl eZ bl z with z | z
      · exact (no y.eb).1 z
      · exact (y.nb i u hi).1 (List.mem_append_left _ (List.mem_append_left _ (List.mem_append_right _ z)))
    · rcases tw_foot yu.ho.pl eZ ml z with z | z
      · exact (no y.em).1 z
      · exact (y.nb i u hi).2 (List.mem_append_left _ (List.mem_append_left _ (List.mem_append_right _ z)))
  have em3 : H3 ml = some (.lst (us.map fun u => V.ref u.x.m)) := k3 _ _ (k2 _ _ (k1 _ _ y.em (by simp)) (by simpa using y.bm.symm)) (by simp)
  have ho4 : HoAt (CH K) H' (u.s.twin q h t gd fd sd hd Z) := ho1.kp k14 (fun c hc => by
    simp only [List.mem_cons, List.not_mem_nil, or_false] at hc
    rcases hc with rfl | rfl
    · exact bT.1
    · exact bT.2) nT1
  have lm4 : LmAt H' (u.x.cp p1 a1 b1 c1 d1 Z1) := lm3.kp k4 (fun c hc => by
    rw [List.mem_singleton] at hc
    rw [hc]; exact (no y.em).2) fun c hc xs e => by
      rw [List.mem_singleton] at hc
      rw [hc, em3] at e; cases e
  have tf : ∀ c ∈ (u.s.twin q h t gd fd sd hd Z).foot, c ∉ (u.x.cp p1 a1 b1 c1 d1 Z1).foot := fun c hc hx => by
    obtain ⟨o, e, _⟩ := ho1.std c hc
    have z := f3 c (cp_foot c hx)
    by_cases n : c = bl
    · exact bT.1 (n ▸ hc)
    · rw [k2 c o e (by simpa using n)] at z; cases z
  have hm4 : HM K H' (u.s.twin q h t gd fd sd hd Z) (u.x.cp p1 a1 b1 c1 d1 Z1) :=
    ⟨ho4, lm4, yu.eh, yu.et, (cp_rho eZ1).trans (yu.er.trans tw_rho.symm), yu.gr, yu.tk, cp_vm eZ1 yu.vm, yu.lim, yu.tp, tf⟩
  have oth : ∀ (j : Nat) (v : Hs), us[j]? = some v → HM K H' v.s v.x := fun j v hv => (y.hm j v hv).kp K4 (fun c hc z => by
      simp only [List.mem_cons, List.not_mem_nil, or_false] at hc
      rcases hc with rfl | rfl
      · exact (y.nb j v hv).1 (List.mem_append_left _ z)
      · exact (y.nb j v hv).2 (List.mem_append_left _ z)) (fun c hc z => by
      simp only [List.mem_cons, List.not_mem_nil, or_false] at hc
      rcases hc with rfl | rfl
      · exact (y.nb j v hv).1 (List.mem_append_right _ z)
      · exact (y.nb j v hv).2 (List.mem_append_right _ z)) nT
  refine ⟨y.scr.kp K4 fun c hc w z e => ?_, ?_, ?_, by rw [List.length_set]; exact y.l3, y.bm, fun j v hv => ?_, fun j v hv => ?_, fun j v hv => ?_, fun j l v w hv hw njl c hc hx => ?_⟩
  · simp only [List.mem_cons, List.not_mem_nil, or_false] at hc
    rcases hc with rfl | rfl
    · rw [y.eb] at e; cases e
    · rw [y.em] at e; cases e
  · rw [List.map_set]
    exact k4 _ _ (k3 _ _ (by rw [e2, upd_same]; rfl) (by simp)) (by simpa using y.bm)
  · rw [List.map_set, e4, upd_same]; rfl
  · rcases set_at hv with ⟨rfl, rfl⟩ | ⟨nj, hv⟩
    · exact hm4
    · exact oth j v hv
  · rcases set_at hv with ⟨rfl, rfl⟩ | ⟨nj, hv⟩
    · refine ⟨?_, (y.sm i u hi).2⟩
      show (u.s.rs.map (reC Z)).length ≤ N
      rw [List.length_map]; exact (y.sm i u hi).1
    · exact y.sm j v hv
  · rcases set_at hv with ⟨rfl, rfl⟩ | ⟨nj, hv⟩
    · refine ⟨fun z => ?_, fun z => ?_⟩
      · rcases List.mem_append.mp z with z | z
        · exact bT.1 z
        · exact (no y.eb).2 z
      · rcases List.mem_append.mp z with z | z
        · exact bT.2 z
        · exact (no y.em).2 z
    · exact y.nb j v hv
  · rcases set_at hv with ⟨rfl, rfl⟩ | ⟨nj, hv2⟩
    · rcases set_at hw with ⟨rfl, rfl⟩ | ⟨nl, hw⟩
      · exact njl rfl
      · obtain ⟨o, e, _⟩ := (y.hm l w hw).std c hx
        rcases List.mem_append.mp hc with z | z
        · exact (no e).1 z
        · exact (no e).2 z
    · obtain ⟨o2, e, _⟩ := (y.hm j v hv2).std c (Hs.own_foot c hc)
      have gz : c ∉ u.s.gs.map (·.2) := fun z => by
        by_cases c2 : j = i
        · rw [c2, hi] at hv2
          obtain rfl := Option.some.inj hv2
          exact yu.gsOut c hc z
        · exact y.dj j i v u hv2 hi c2 c hc (List.mem_append_left _ (List.mem_append_left _ (List.mem_append_right _ z)))
      have dj0 := fun w => y.dj j l v w hv2
      clear hv
      rcases set_at hw with ⟨rfl, rfl⟩ | ⟨nl, hw2⟩
      · rcases List.mem_append.mp hx with z | z
        · rcases tw_foot yu.ho.pl eZ c z with z | z
          · exact (no e).1 z
          · exact gz z
        · exact (no e).2 z
      · exact dj0 w hw2 njl c hc hx
end
/-! ### pieces that are made one behind the other lie apart -/
def Dis (H : Hp) (L : List (List Addr)) : Prop := (∀ F ∈ L, ∀ c ∈ F, ∃ o, H c = some o) ∧ L.Pairwise fun F G => ∀ c ∈ F, c ∉ G
theorem Dis.add {H H' : Hp} {L : List (List Addr)} {F : List Addr} (d : Dis H L) (k : Kp [] H H') (f : ∀ c ∈ F, H c = none) (x : ∀ c ∈ F, ∃ o, H' c = some o) : Dis H' (F :: L) := by
  refine ⟨fun G hG c hc => ?_, List.pairwise_cons.mpr ⟨fun G hG c hc hx => ?_, d.2⟩⟩
  · rcases List.mem_cons.mp hG with z | z
    · exact x c (z ▸ hc)
    · obtain ⟨o, e⟩ := d.1 G z c hc
      exact ⟨o, k c o e (by simp)⟩
  · obtain ⟨o, e⟩ := d.1 G hG c hx
    rw [f c hc] at e; cases e
theorem Dis.ne {H : Hp} {L : List (List Addr)} (d : Dis H L) {F G : List Addr} (i j : Nat) (n : i ≠ j) (hi : L[i]? = some F) (hj : L[j]? = some G) : ∀ c ∈ F, c ∉ G := by
  obtain ⟨li, ei⟩ := List.getElem?_eq_some_iff.mp hi
  obtain ⟨lj, ej⟩ := List.getElem?_eq_some_iff.mp hj
  have p := List.pairwise_iff_getElem.mp d.2
  rcases Nat.lt_or_gt_of_ne n with h | h
  · have := p i j li lj h
    rw [ei, ej] at this; exact this
  · have := p j i lj li h
    rw [ei, ej] at this
    exact fun c h1 h2 => this c h2 h1

end Lw
namespace Lw
open PySem PySem.Spec L2 FG
open PyProof.Rows hiding St
/-! ### the law -/
def spLaw (K : PySem.W.Frag) : Sp := fun vs H Q _ => ∃ (a : Addr) (ns : List Int), vs = [.ref a] ∧ ns.length ≤ 63 ∧ Scr K H a ns ∧ ∀ H', Q (.bl true) H'
theorem ixN_n {n j : Nat} (hj : j < n) : ixN n (j : Int) = some j := by
  unfold ixN
  rw [if_pos (by omega), if_pos (by omega)]
  simp
theorem foot0 {p h t gd fd sd hd : Addr} {n : Nat} : (HSt.bare p h t gd fd sd hd n).foot = [p, h, t, gd, fd, sd, hd] := by simp [HSt.foot, HSt.bare, HSt.here]
theorem lfoot0 {m mh mt mw mc : Addr} {n : Nat} : (⟨m, mh, mt, mw, mc, [none], [none], [], n, 0⟩ : LSt).foot = [m, mh, mt, mw, mc] := by simp [LSt.foot]
section
variable {P : Program} {w : World} {K : PySem.W.Frag} {mg : Str → Option Value} {base : Heap}
theorem ok_law (T : Tx K mg) {fd : FuncData} (F : Fun K "law" "law" s_law (He.ga K "law") fd) (k_House : Mak P w K mg base 3 "House" (CH K) (spHInit K)) (m_twin : Met P w K mg base 5 (CH K) "twin" (spTwin K)) (m_picture : Met P w K mg base 6 (CH K) "picture" (spPicture K))
    (c__law_house : Cal P w K mg base 1 "_law_house" spLHouse) (c__law_cell : Cal P w K mg base 1 "_law_cell" (spCell K)) (c__law_box : Cal P w K mg base 1 "_law_box" spBox) (c__law_take : Cal P w K mg base 1 "_law_take" spTake) (c__law_deed : Cal P w K mg base 6 "_law_deed" (spDeed K))
    (c__law_copy : Cal P w K mg base 1 "_law_copy" spLCopy) (c__law_picture : Cal P w K mg base 3 "_law_picture" (spLPicture K)) (c__law_apart : Cal P w K mg base 8 "_law_apart" (spApart K)) (c__law_right : Cal P w K mg base 10 "_law_right" (spRight K)) :
    FnG P w K mg base 12 (He.ga K "law") fd ["_law_script"] (spLaw K) := by
  refine FnG.of F sc_law (fun vs H Q E h => ?_) (fun cdv A outer s H vs Q E hr h => ?_)
  · obtain ⟨a, ns, rfl, _⟩ := h; rfl
  · obtain ⟨a, ns, rfl, hlen, scr, q⟩ := h
    refine ⟨_, pss_cons (ps_set (i := 1) sc_law.nd rfl (by first | exact Or.inl rfl | exact Or.inr rfl) (pe_ix (kixL K) (pe_lst (pa_cons (pe_int) (pa_cons (pe_int) (pa_nil)))) (pe_op op_fdiv (gc c__law_take (hr.mono (by decide)) takes0 (pa_cons (gc c__law_box (hr.mono (by decide)) takes0 (pa_cons (gc c__law_cell (hr.mono (by decide)) takes0 (pa_cons (pv 0) (pa_cons (pe_int) (pa_nil)))) (pa_nil))) (pa_cons (pe_int) (pa_nil)))) (pe_int)) (fun _ _ => rfl)))
      (pss_cons (ps_set (i := 2) sc_law.nd rfl (by first | exact Or.inl rfl | exact Or.inr rfl) (pe_lst (pa_cons (gk k_House (hr.mono (by decide)) takes0 (pa_cons (pv 1) (pa_nil))) (pa_cons (gk k_House (hr.mono (by decide)) takes0 (pa_cons (pv 1) (pa_nil))) (pa_cons (gk k_House (hr.mono (by decide)) takes0 (pa_cons (pv 1) (pa_nil))) (pa_nil))))))
      (pss_cons (ps_set (i := 3) sc_law.nd rfl (by first | exact Or.inl rfl | exact Or.inr rfl) (pe_lst (pa_cons (gc c__law_house (hr.mono (by decide)) takes0 (pa_cons (pv 1) (pa_nil))) (pa_cons (gc c__law_house (hr.mono (by decide)) takes0 (pa_cons (pv 1) (pa_nil))) (pa_cons (gc c__law_house (hr.mono (by decide)) takes0 (pa_cons (pv 1) (pa_nil))) (pa_nil))))))
      (pss_cons (ps_for (passes_of rfl) rfl (pi_range1 rfl T.z_range (pa_cons (pe_callB (call_max2 rfl) (by rfl) T.z_max (by decide +kernel) (pa_cons (pe_int) (pa_cons (pe_callB (call_min2 rfl) (by rfl) T.z_min (by decide +kernel) (pa_cons (pe_int) (pa_cons (pe_callB (klen K) (by rfl) T.z_len PySem.boot_len (pa_cons (pv 0) (pa_nil))) (pa_nil)))) (pa_nil)))) (pa_nil))) (pg_name (i := 4) sc_law.nd rfl (by first | exact Or.inl rfl | exact Or.inr rfl))
        (pss_cons (ps_set (i := 5) sc_law.nd rfl (by first | exact Or.inl rfl | exact Or.inr rfl) (gc c__law_box (hr.mono (by decide)) takes0 (pa_cons (gc c__law_cell (hr.mono (by decide)) takes0 (pa_cons (pv 0) (pa_cons (pv 4) (pa_nil)))) (pa_nil))))
      (pss_cons (ps_set (i := 6) sc_law.nd rfl (by first | exact Or.inl rfl | exact Or.inr rfl) (gc c__law_take (hr.mono (by decide)) takes0 (pa_cons (pv 5) (pa_cons (pe_int) (pa_nil)))))
      (pss_cons (ps_set (i := 7) sc_law.nd rfl (by first | exact Or.inl rfl | exact Or.inr rfl) (pe_op op_mod (pe_op op_add (pe_op op_add (pv 6) (pe_int)) (gc c__law_take (hr.mono (by decide)) takes0 (pa_cons (pv 5) (pa_cons (pe_int) (pa_nil))))) (pe_int)))
      (pss_cons (ps_set (i := 8) sc_law.nd rfl (by first | exact Or.inl rfl | exact Or.inr rfl) (pe_cmpR op_eq (gc c__law_take (hr.mono (by decide)) takes0 (pa_cons (pv 5) (pa_cons (pe_int) (pa_nil)))) (pe_int) (by first | exact nomark _ | rfl)))
      (pss_cons (ps_for (passes_of rfl) rfl (pi_range1 rfl T.z_range (pa_cons (pe_op op_add (pe_int) (gc c__law_take (hr.mono (by decide)) takes0 (pa_cons (pv 5) (pa_cons (pe_int) (pa_nil))))) (pa_nil))) (pg_name (i := 9) sc_law.nd rfl (by first | exact Or.inl rfl | exact Or.inr rfl))
        (pss_one (ps_expr (gc c__law_deed (hr.mono (by decide)) takes0 (pa_cons (pv 5) (pa_cons (pe_ix (kixL K) (pv 2) (pv 6) (fun _ _ => rfl)) (pa_cons (pe_ix (kixL K) (pv 3) (pv 6) (fun _ _ => rfl)) (pa_nil))))))))
      (pss_cons (ps_if (pt_val (pv 8)) (pss_cons (ps_asg (gm0 m_twin (hr.mono (by decide)) takes0 (pe_ix (kixL K) (pv 2) (pv 6) (fun _ _ => rfl))) (pg_sub (pv 2) (pv 7) set_list))
      (pss_cons (ps_asg (gc c__law_copy (hr.mono (by decide)) takes0 (pa_cons (pe_ix (kixL K) (pv 3) (pv 6) (fun _ _ => rfl)) (pa_nil))) (pg_sub (pv 3) (pv 7) set_list))
      (pss_one (ps_if (pt_not (pt_val (pe_callB (kisi K) (by rfl) T.z_isinstance (by decide +kernel) (pa_cons (pe_ix (kixL K) (pv 2) (pv 7) (fun _ _ => rfl)) (pa_cons (pe_glob (v := .ref (He.ga K "House")) rfl T.g_House rfl) (pa_nil)))))) (pss_one (ps_ret (pe_bl))) (pss_nil))))) (pss_nil))
      (pss_cons (ps_set (i := 10) sc_law.nd rfl (by first | exact Or.inl rfl | exact Or.inr rfl) (gc c__law_take (hr.mono (by decide)) takes0 (pa_cons (pv 5) (pa_cons (pe_int) (pa_nil)))))
      (pss_one (ps_if (pt_cmpR op_ne (krepr K hr T.z_repr (gm0 m_picture (hr.mono (by decide)) takes0 (pe_ix (kixL K) (pv 2) (pv 10) (fun _ _ => rfl)))) (krepr K hr T.z_repr (gc c__law_picture (hr.mono (by decide)) takes0 (pa_cons (pe_ix (kixL K) (pv 3) (pv 10) (fun _ _ => rfl)) (pa_nil)))) (by first | exact nomark _ | rfl)) (pss_one (ps_ret (pe_bl))) (pss_nil)))))))))))
      (pss_cons (ps_if (pt_cmpR (kneE K hr.r.units) (pe_lc (own := [("_law_one_here", 11)]) (g := gName 11) rfl sc_law.nd (kiL K (pv 2)) (blkOk_by (own := [("_law_one_here", 11)]) (N := ["_law_script", "_law_limit", "_law_houses", "_law_models", "_law_k", "_law_box_here", "_law_at", "_law_other", "_law_twins", "_law_turn", "_law_asked", "_law_one_here"]) (sc := defScope s_law) (by decide +kernel)) (fun _ _ _ _ _ => pg_name (i := 11) sc_law.nd rfl (by first | exact Or.inl rfl | exact Or.inr rfl)) (fun _ _ _ _ _ => by exact pts_one (pt_not (pt_val (pe_callB (kisi K) (by rfl) T.z_isinstance (by decide +kernel) (pa_cons (pv 11) (pa_cons (pe_glob (v := .ref (He.ga K "Frames")) rfl T.g_Frames rfl) (pa_nil))))))) (fun _ _ _ _ _ => by exact pv 11)) (pe_lst (pa_nil)) (by first | exact nomark _ | rfl)) (pss_one (ps_ret (pe_bl))) (pss_nil))
      (pss_cons (ps_for (passes_of rfl) rfl (pi_range1 rfl T.z_range (pa_cons (pe_int) (pa_nil))) (pg_name (i := 4) sc_law.nd rfl (by first | exact Or.inl rfl | exact Or.inr rfl))
        (pss_one (ps_if (pt_not (pt_val (gc c__law_apart (hr.mono (by decide)) takes0 (pa_cons (pe_ix (kixL K) (pv 2) (pv 4) (fun _ _ => rfl)) (pa_cons (pe_ix (kixL K) (pv 3) (pv 4) (fun _ _ => rfl)) (pa_cons (pv 3) (pa_nil))))))) (pss_one (ps_ret (pe_bl))) (pss_nil))))
      (pss_one (ps_ret (pe_cmpR (keqE K hr.r.units) (pe_lc (own := [("_law_k", 4)]) (g := gName 4) rfl sc_law.nd (pi_range1 rfl T.z_range (pa_cons (pe_int) (pa_nil))) (blkOk_by (own := [("_law_k", 4)]) (N := ["_law_script", "_law_limit", "_law_houses", "_law_models", "_law_k", "_law_box_here", "_law_at", "_law_other", "_law_twins", "_law_turn", "_law_asked", "_law_one_here"]) (sc := defScope s_law) (by decide +kernel)) (fun _ _ _ _ _ => pg_name (i := 4) sc_law.nd rfl (by first | exact Or.inl rfl | exact Or.inr rfl)) (fun _ _ _ _ _ => by exact pts_one (pt_not (pt_val (gc c__law_right (hr.mono (by decide)) takes0 (pa_cons (pe_ix (kixL K) (pv 2) (pv 4) (fun _ _ => rfl)) (pa_cons (pe_ix (kixL K) (pv 3) (pv 4) (fun _ _ => rfl)) (pa_nil))))))) (fun _ _ _ _ _ => by exact pv 4)) (pe_lst (pa_nil)) (by first | exact nomark _ | rfl))))))))), ?_⟩
    -- the limit
    refine ⟨(by show 2 ≤ sizeLine; decide), fun ll hll => ?_⟩
    have kA := (Kp.refl (S := []) (H := H)).new (o := .lst [.int 1000, .int 30]) hll
    have eA : upd H ll (.lst [.int 1000, .int 30]) ll = some (.lst [.int 1000, .int 30]) := upd_same
    generalize upd H ll (.lst [.int 1000, .int 30]) = HA at *
    refine ⟨_, rfl, a, ns, 0, rfl, (scr.kp0 kA).sq, fun z => ⟨z, rfl, fun b HB hb kB bxB => ?_⟩⟩
    have kB' : Kp [] HA HB := fun c o e _ => kB.kp c o e (by simpa using ne_of_none e hb)
    refine ⟨b, 0, 5, rfl, bxB, by decide, by decide, by decide, fun HC t kC bxC t0 t1 => ?_⟩
    have eC := kC.kp _ _ (kB' _ _ eA (by simp)) (by simpa using ne_of_none eA hb)
    have scrC : Scr K HC a ns := ((scr.kp0 kA).kp0 kB').kp kC.kp bxB.nf
    obtain ⟨lim, elim, lim1, lim2⟩ : ∃ lim : Nat, atI [V.int 1000, V.int 30] (t / 4) = some (.int (lim : Int)) ∧ 1 ≤ lim ∧ lim ≤ 1000 := by
      have ht : t / 4 = 0 ∨ t / 4 = 1 := by omega
      rcases ht with e | e
      · exact ⟨1000, by rw [e]; rfl, by decide, by decide⟩
      · exact ⟨30, by rw [e]; rfl, by decide, by decide⟩
    clear kA kB kB' kC eA scr bxB bxC
    refine ⟨_, _, rfl, rfl, ⟨by show (0 : Int) < 4; decide, by show (4 : Int) < 1073741824; decide⟩, ll, _, _, _, rfl, rfl, SqL.of eC, elim, ?_⟩
    clear eC elim
    -- three houses
    refine ⟨_, rfl, fun p0 d0 hp0 hd0 nd0 => ⟨p0, d0, lim, rfl, upd_same, lim1, lim2, fun h0 t0 gd0 fd0 sd0 hd0' H1 f0 k1 ho0 => ⟨rfl, ?_⟩⟩⟩
    refine ⟨_, rfl, fun p1 d1 hp1 hd1 nd1 => ⟨p1, d1, lim, rfl, upd_same, lim1, lim2, fun h1 t1 gd1 fd1 sd1 hd1' H2 f1 k2 ho1 => ⟨rfl, ?_⟩⟩⟩
    refine ⟨_, rfl, fun p2 d2 hp2 hd2 nd2 => ⟨p2, d2, lim, rfl, upd_same, lim1, lim2, fun h2 t2 gd2 fd2 sd2 hd2' H3 f2 k3 ho2 => ⟨rfl, (by show 3 ≤ sizeLine; decide), fun bl hbl => ?_⟩⟩⟩
    have F0 : ∀ c ∈ (HSt.bare p0 h0 t0 gd0 fd0 sd0 hd0' lim).foot, HC c = none := fun c hc => by
      rw [foot0] at hc
      rcases List.mem_cons.mp hc with z | z
      · rw [z]; exact hp0
      · exact made_free (f0 c z)
    have F1 : ∀ c ∈ (HSt.bare p1 h1 t1 gd1 fd1 sd1 hd1' lim).foot, H1 c = none := fun c hc => by
      rw [foot0] at hc
      rcases List.mem_cons.mp hc with z | z
      · rw [z]; exact hp1
      · exact made_free (f1 c z)
    have F2 : ∀ c ∈ (HSt.bare p2 h2 t2 gd2 fd2 sd2 hd2' lim).foot, H2 c = none := fun c hc => by
      rw [foot0] at hc
      rcases List.mem_cons.mp hc with z | z
      · rw [z]; exact hp2
      · exact made_free (f2 c z)
    have K1 : Kp [] HC H1 := made_kp hp0 hd0 k1
    have K2 : Kp [] H1 H2 := made_kp hp1 hd1 k2
    have K3 : Kp [] H2 H3 := made_kp hp2 hd2 k3
    have al : ∀ {F : List Addr} {H' : Hp}, (∀ a ∈ F, ∃ o, H' a = some o ∧ (∀ xs, o ≠ .tup xs) ∧ (∀ b v, o ≠ .frz b v)) → ∀ a ∈ F, ∃ o, H' a = some o := fun h a ha => let ⟨o, e, _⟩ := h a ha; ⟨o, e⟩
    have D0 : Dis HC [] := ⟨(fun F hF => by cases hF), List.Pairwise.nil⟩
    have D1 := D0.add K1 F0 (al ho0.std)
    have D2 := D1.add K2 F1 (al ho1.std)
    have D3 := D2.add K3 F2 (al ho2.std)
    have K4 := (Kp.refl (S := []) (H := H3)).new (o := .lst [.ref p0, .ref p1, .ref p2]) hbl
    have B4 : upd H3 bl (.lst [.ref p0, .ref p1, .ref p2]) bl = some (.lst [.ref p0, .ref p1, .ref p2]) := upd_same
    have D4 := D3.add (F := [bl]) K4 (fun c hc => by rw [List.mem_singleton] at hc; rw [hc]; exact hbl) (fun c hc => by rw [List.mem_singleton] at hc; rw [hc]; exact ⟨_, B4⟩)
    generalize upd H3 bl (.lst [.ref p0, .ref p1, .ref p2]) = H4 at *
    -- and the law's
    refine ⟨_, rfl, lim, rfl, fun m0 mh0 mt0 mw0 mc0 H5 g0 K5 lm0 => ⟨_, rfl, lim, rfl, fun m1 mh1 mt1 mw1 mc1 H6 g1 K6 lm1 => ⟨_, rfl, lim, rfl, fun m2 mh2 mt2 mw2 mc2 H7 g2 K7 lm2 => ⟨(by show 3 ≤ sizeLine; decide), fun ml hml => ?_⟩⟩⟩⟩
    have D5 := D4.add K5 (fun c hc => g0 c (lfoot0 ▸ hc)) (al lm0.std)
    have D6 := D5.add K6 (fun c hc => g1 c (lfoot0 ▸ hc)) (al lm1.std)
    have D7 := D6.add K7 (fun c hc => g2 c (lfoot0 ▸ hc)) (al lm2.std)
    have K8 := (Kp.refl (S := []) (H := H7)).new (o := .lst [.ref m0, .ref m1, .ref m2]) hml
    have B8 : upd H7 ml (.lst [.ref m0, .ref m1, .ref m2]) ml = some (.lst [.ref m0, .ref m1, .ref m2]) := upd_same
    have D8 := D7.add (F := [ml]) K8 (fun c hc => by rw [List.mem_singleton] at hc; rw [hc]; exact hml) (fun c hc => by rw [List.mem_singleton] at hc; rw [hc]; exact ⟨_, B8⟩)
    generalize upd H7 ml (.lst [.ref m0, .ref m1, .ref m2]) = H8 at *
    have K48 := ((K5.trans K6).trans K7).trans K8
    obtain ⟨us, I0⟩ : ∃ us, LJ K H8 0 lim a bl ml ns us := by
      have ex := hm_start (ho0.kp0 (((K2.trans K3).trans K4).trans K48)) (lm0.kp0 ((K6.trans K7).trans K8)) (D8.ne 7 3 (by decide) rfl rfl)
      have ey := hm_start (ho1.kp0 ((K3.trans K4).trans K48)) (lm1.kp0 (K7.trans K8)) (D8.ne 6 2 (by decide) rfl rfl)
      have ez := hm_start (ho2.kp0 (K4.trans K48)) (lm2.kp0 K8) (D8.ne 5 1 (by decide) rfl rfl)
      obtain ⟨us, eus⟩ : ∃ us : List Hs, us = [⟨HSt.bare p0 h0 t0 gd0 fd0 sd0 hd0' lim, ⟨m0, mh0, mt0, mw0, mc0, [none], [none], [], lim, 0⟩⟩, ⟨HSt.bare p1 h1 t1 gd1 fd1 sd1 hd1' lim, ⟨m1, mh1, mt1, mw1, mc1, [none], [none], [], lim, 0⟩⟩, ⟨HSt.bare p2 h2 t2 gd2 fd2 sd2 hd2' lim, ⟨m2, mh2, mt2, mw2, mc2, [none], [none], [], lim, 0⟩⟩] := ⟨_, rfl⟩
      have ps : ∀ (i : Nat) (u : Hs), us[i]? = some u → i < 3 ∧ HM K H8 u.s u.x ∧ u.s.rs.length ≤ 0 ∧ u.s.most = lim ∧ [[ml], (⟨m2, mh2, mt2, mw2, mc2, [none], [none], [], lim, 0⟩ : LSt).foot, (⟨m1, mh1, mt1, mw1, mc1, [none], [none], [], lim, 0⟩ : LSt).foot, (⟨m0, mh0, mt0, mw0, mc0, [none], [none], [], lim, 0⟩ : LSt).foot, [bl], (HSt.bare p2 h2 t2 gd2 fd2 sd2 hd2' lim).foot, (HSt.bare p1 h1 t1 gd1 fd1 sd1 hd1' lim).foot, (HSt.bare p0 h0 t0 gd0 fd0 sd0 hd0' lim).foot][7 - i]? = some u.s.foot ∧
          [[ml], (⟨m2, mh2, mt2, mw2, mc2, [none], [none], [], lim, 0⟩ : LSt).foot, (⟨m1, mh1, mt1, mw1, mc1, [none], [none], [], lim, 0⟩ : LSt).foot, (⟨m0, mh0, mt0, mw0, mc0, [none], [none], [], lim, 0⟩ : LSt).foot, [bl], (HSt.bare p2 h2 t2 gd2 fd2 sd2 hd2' lim).foot, (HSt.bare p1 h1 t1 gd1 fd1 sd1 hd1' lim).foot, (HSt.bare p0 h0 t0 gd0 fd0 sd0 hd0' lim).foot][3 - i]? = some u.x.foot := fun i u hu => by
        rw [eus] at hu
        match i, hu with
        | 0, hu => obtain rfl := Option.some.inj hu; exact ⟨by decide, ex, Nat.le_refl _, rfl, rfl, rfl⟩
        | 1, hu => obtain rfl := Option.some.inj hu; exact ⟨by decide, ey, Nat.le_refl _, rfl, rfl, rfl⟩
        | 2, hu => obtain rfl := Option.some.inj hu; exact ⟨by decide, ez, Nat.le_refl _, rfl, rfl, rfl⟩
        | n + 3, hu => cases hu
      refine ⟨us, scrC.kp0 ((((K1.trans K2).trans K3).trans K4).trans K48), ?_, ?_, ?_, fun e => ?_, fun i u e => (ps i u e).2.1, fun i u e => ⟨(ps i u e).2.2.1, (ps i u e).2.2.2.1⟩, fun i u e => ?_, fun i j u v hu hv nij c hc hx => ?_⟩
      · rw [eus]; exact K48 _ _ B4 (by simp)
      · rw [eus]; exact B8
      · rw [eus]; rfl
      · exact D8.ne 4 0 (by decide) rfl rfl bl (by simp) (by simp [e])
      · obtain ⟨i3, _, _, _, q1, q2⟩ := ps i u e
        refine ⟨fun z => ?_, fun z => ?_⟩
        · rcases List.mem_append.mp z with z | z
          · exact D8.ne 4 (7 - i) (by omega) rfl q1 bl (by simp) z
          · exact D8.ne 4 (3 - i) (by omega) rfl q2 bl (by simp) z
        · rcases List.mem_append.mp z with z | z
          · exact D8.ne 0 (7 - i) (by omega) rfl q1 ml (by simp) z
          · exact D8.ne 0 (3 - i) (by omega) rfl q2 ml (by simp) z
      · obtain ⟨i3, _, _, _, q1, q2⟩ := ps i u hu
        obtain ⟨j3, _, _, _, q3, q4⟩ := ps j v hv
        rcases List.mem_append.mp (Hs.own_foot c hc) with z | z
        · rcases List.mem_append.mp hx with y | y
          · exact D8.ne (7 - i) (7 - j) (by omega) q1 q3 c z y
          · exact D8.ne (7 - i) (3 - j) (by omega) q1 q4 c z y
        · rcases List.mem_append.mp hx with y | y
          · exact D8.ne (3 - i) (7 - j) (by omega) q2 q3 c z y
          · exact D8.ne (3 - i) (3 - j) (by omega) q2 q4 c z y
    clear D0 D1 D2 D3 D4 D5 D6 D7 D8 K1 K2 K3 K4 K5 K6 K7 K8 K48 B4 B8 F0 F1 F2 al
    -- the cells
    refine ⟨_, rfl, a, _, rfl, .inl I0.scr.sq, _, _, rfl, _, _, rfl, _, rfl, ?_, ?_, for_range (lo := 0) (n := _) (fun i σ H' => ∃ v4 v5 v6 v7 v8 v9 v10, σ = [some (.ref a), some (.int (lim : Int)), some (.ref bl), some (.ref ml), v4, v5, v6, v7, v8, v9, v10, none] ∧ ∃ us, LJ K H' (3 * i) lim a bl ml ns us) ⟨_, _, _, _, _, _, _, rfl, us, I0⟩ ?_ ?_⟩
    · rw [List.length_map]; split <;> split <;> omega
    · rw [List.length_map]; split <;> split <;> omega
    · rintro i σ G0 hi ⟨v4, v5, v6, v7, v8, v9, v10, rfl, us, J0⟩
      have hi2 : i < 30 := by
        rw [List.length_map] at hi
        split at hi <;> split at hi <;> omega
      refine ⟨_, rfl, _, rfl, a, ns, i, by rw [Int.zero_add], J0.scr.sq, fun z => ⟨z, rfl, fun b G1 hb k1 bx1 => ?_⟩⟩
      have ap := J0.apart hb
      have J1 : LJ K G1 (3 * i) lim a bl ml ns us := J0.kp0 (fun c o e _ => k1.kp c o e (by simpa using ne_of_none e hb))
      refine ⟨_, rfl, b, 0, 3, rfl, bx1, by decide, by decide, by decide, fun G2 at_ k2 bx2 at0 at1 => ?_⟩
      have J2 := J1.kp k2.kp bx1 ap
      refine ⟨_, rfl, _, _, rfl, rfl, _, rfl, b, 1, 2, rfl, bx2, by decide, by decide, by decide, fun G3 ot k3 bx3 ot0 ot1 => ⟨_, _, rfl, rfl, _, _, rfl, rfl, (by show (0 : Int) < 3; decide), ?_⟩⟩
      have J3 := J2.kp k3.kp bx2 ap
      refine ⟨_, rfl, b, 2, 5, rfl, bx3, by decide, by decide, by decide, fun G4 tw k4 bx4 _ _ => ⟨rfl, ?_⟩⟩
      have J4 := J3.kp k4.kp bx3 ap
      refine ⟨_, rfl, b, 3, 3, rfl, bx4, by decide, by decide, by decide, fun G5 d k5 bx5 d0 d1 => ?_⟩
      have J5 := J4.kp k5.kp bx4 ap
      obtain ⟨ai, rfl⟩ : ∃ ai : Nat, at_ = (ai : Int) := ⟨at_.toNat, by omega⟩
      have hai : ai < 3 := by omega
      refine ⟨_, _, rfl, rfl, _, rfl, by omega, by omega, for_range (lo := 0) (n := _) (fun j σ H' => ∃ v9 v10, σ = [some (.ref a), some (.int (lim : Int)), some (.ref bl), some (.ref ml), some (.int (0 + (i : Int))), some (.ref b), some (.int (ai : Int)), some (.int (((ai : Int) + 1 + ot) % 3)), some (.bl (decide (V.int tw = V.int 0))), v9, v10, none] ∧ ∃ us, LJ K H' (3 * i + j) lim a bl ml ns us ∧ Apt b bl ml us ∧ BoxAt H' b (4 + 20 * (j : Int))) ⟨_, _, rfl, us, J5, ap, bx5.more (by omega)⟩ ?_ ?_⟩
      · rintro j σ G6 hj ⟨v9, v10, rfl, us, J6, ap, bx6⟩
        have hj3 : j < 3 := by omega
        obtain ⟨u, hu⟩ : ∃ u, us[ai]? = some u := ⟨_, List.getElem?_eq_getElem (by rw [J6.l3]; exact hai)⟩
        refine ⟨_, rfl, _, rfl, _, rfl, bl, _, _, .ref u.s.p, rfl, rfl, SqL.of J6.eb, atI_nat (by rw [List.getElem?_map, hu]; rfl), _, rfl, _, rfl, ml, _, _, .ref u.x.m, rfl, rfl, SqL.of J6.em, atI_nat (by rw [List.getElem?_map, hu]; rfl), ?_⟩
        refine ⟨u.s, u.x, b, _, rfl, bx6, by omega, J6.hm ai u hu, fun z => ap.2.2 ai u hu (List.mem_append_left _ z), fun z => ap.2.2 ai u hu (List.mem_append_right _ z), Nat.le_trans (J6.sm ai u hu).1 (by omega), fun G7 s' x' k7 m7 g7 bx7 => ?_⟩
        obtain ⟨y1, y2⟩ := J6.deed (u' := ⟨s', x'⟩) hu bx6 ap k7 m7 g7
        exact ⟨_, _, rfl, _, y1, y2, bx7.more (by omega)⟩
      · rintro σ G6 ⟨v9, v10, rfl, us, J6, ap, bx6⟩
        have hd : (1 + d).toNat ≤ 3 := by omega
        have J6 : LJ K G6 (3 * i + 3) lim a bl ml ns us := J6.more (by omega)
        have bx6 : BoxAt G6 b 70 := bx6.more (by omega)
        obtain ⟨oi, eo, ho3, nio⟩ : ∃ oi : Nat, ((ai : Int) + 1 + ot) % 3 = (oi : Int) ∧ oi < 3 ∧ oi ≠ ai := ⟨(((ai : Int) + 1 + ot) % 3).toNat, by omega, by omega, by omega⟩
        refine ⟨_, rfl, _, rfl, fork (fun H' => ∃ us, LJ K H' (3 * i + 3) lim a bl ml ns us ∧ Apt b bl ml us ∧ BoxAt H' b 70) ⟨us, J6, ap, bx6⟩ (fun go => ?_) (fun G7 I7 => ?_)⟩
        · obtain ⟨u, hu⟩ : ∃ u, us[ai]? = some u := ⟨_, List.getElem?_eq_getElem (by rw [J6.l3]; exact hai)⟩
          have yu := J6.hm ai u hu
          have su := J6.sm ai u hu
          obtain ⟨dx, fs, eu, ff, _⟩ := yu.ho.ob
          refine ⟨_, rfl, _, rfl, bl, _, _, .ref u.s.p, rfl, rfl, SqL.of J6.eb, atI_nat (by rw [List.getElem?_map, hu]; rfl), u.s.p, dx, fs, rfl, eu, ff.no _ (by decide +kernel), u.s, rfl, yu.ho, by rw [su.2]; exact lim1, yu.keys (by omega), fun q h t gd fd sd hd Z G7 f7 eZ k7 ho7 => ?_⟩
          have J7 := J6.kp0 k7
          refine ⟨_, rfl, _, rfl, bl, _, _, oi, rfl, congrArg V.int eo, J7.eb, by rw [List.length_map, J7.l3]; exact ixN_n ho3, ?_⟩
          obtain ⟨G8, e8⟩ : ∃ G8, G8 = upd G7 bl (.lst ((us.map fun u => V.ref u.s.p).set oi (.ref q))) := ⟨_, rfl⟩
          have e8b : G8 bl = some (.lst ((us.map fun u => V.ref u.s.p).set oi (.ref q))) := by rw [e8, upd_same]
          have e8m : G8 ml = some (.lst (us.map fun u => V.ref u.x.m)) := by rw [e8, upd_ne J7.bm.symm]; exact J7.em
          have lm8 : LmAt G8 u.x := by
            rw [e8]
            exact (J7.hm ai u hu).lm.kp (S := [bl]) (fun c o e hc => by rw [upd_ne (by simpa using hc)]; exact e) (fun c hc z => by rw [List.mem_singleton] at hc; rw [hc] at z; exact (J7.nb ai u hu).1 (List.mem_append_right _ z)) (fun c hc xs e => by rw [List.mem_singleton] at hc; rw [hc, J7.eb] at e; cases e)
          rw [← e8]
          have wf := yu.ho.wf
          have wl := wf.len
          have ws := wf.small
          refine ⟨_, rfl, _, rfl, ml, _, _, .ref u.x.m, rfl, rfl, SqL.of e8m, atI_nat (by rw [List.getElem?_map, hu]; rfl), u.x, rfl, lm8, by rw [yu.len]; omega, by rw [yu.eh]; omega, by rw [yu.et]; omega, fun p1 a1 b1 c1 d1 Z1 G9 f9 eZ1 k9 lm9 => ?_⟩
          refine ⟨_, rfl, _, rfl, ml, _, _, oi, rfl, congrArg V.int eo, k9 _ _ e8m (by simp), by rw [List.length_map, J7.l3]; exact ixN_n ho3, ?_⟩
          obtain ⟨GA, eA⟩ : ∃ GA, GA = upd G9 ml (.lst ((us.map fun u => V.ref u.x.m).set oi (.ref p1))) := ⟨_, rfl⟩
          have JA := J6.twin hu nio f7 eZ k7 ho7 e8 f9 eZ1 k9 lm9 eA
          rw [← eA]
          obtain ⟨u2, hu2⟩ : ∃ u2, (us.set oi ⟨u.s.twin q h t gd fd sd hd Z, u.x.cp p1 a1 b1 c1 d1 Z1⟩)[oi]? = some u2 := ⟨_, List.getElem?_eq_getElem (by rw [JA.l3]; exact ho3)⟩
          obtain ⟨dx2, fs2, eu2, _⟩ := (JA.hm oi u2 hu2).ho.ob
          have fr8 : ∀ {c}, G9 c = none → G6 c = none := fun {c} z => by
            cases e : G6 c with
            | none => rfl
            | some o =>
              have e7 := k7 _ _ e (by simp)
              by_cases n : c = bl
              · rw [n, k9 _ _ e8b (by simp)] at z; cases z
              · rw [k9 c o (by rw [e8, upd_ne n]; exact e7) (by simp)] at z; cases z
          have apA : Apt b bl ml (us.set oi ⟨u.s.twin q h t gd fd sd hd Z, u.x.cp p1 a1 b1 c1 d1 Z1⟩) := by
            obtain ⟨_, _, _, ebx, _⟩ := id bx6
            refine ⟨ap.1, ap.2.1, fun j v hv z => ?_⟩
            rcases set_at hv with ⟨rfl, rfl⟩ | ⟨nj, hv⟩
            · rcases List.mem_append.mp z with z | z
              · rcases tw_foot yu.ho.pl eZ b z with z | z
                · rw [tw_own yu.ho.pl eZ] at z
                  rw [f7 b z] at ebx; cases ebx
                · exact ap.2.2 ai u hu (List.mem_append_left _ (List.mem_append_left _ (List.mem_append_right _ z)))
              · have e8' : G8 b = none := f9 b (cp_foot b z)
                rw [e8, upd_ne ap.1, k7 _ _ ebx (by simp)] at e8'; cases e8'
            · exact ap.2.2 j v hv z
          have bxA : BoxAt GA b 70 := ((bx6.kp k7 (by simp)).kp (S := [bl, ml]) (H' := GA) (fun c o e hc => by
            simp only [List.mem_cons, List.not_mem_nil, or_false, not_or] at hc
            rw [eA, upd_ne hc.2]
            exact k9 c o (by rw [e8, upd_ne hc.1]; exact e) (by simp)) (by simp [ap.1, ap.2.1]))
          refine ⟨_, rfl, _, rfl, bl, _, _, .ref u2.s.p, rfl, rfl, SqL.of JA.eb, by rw [eo]; exact atI_nat (by rw [List.getElem?_map, hu2]; rfl), ?_⟩
          exact ⟨_, _, _, _, true, rfl, .own _, T.t_House.ins T.c_House eu2, T.y_House_House, _, rfl, iteF (go _ ⟨_, JA, apA, bxA⟩)⟩
        · obtain ⟨us, J7, ap, bx7⟩ := I7
          refine ⟨_, rfl, b, 70, 3, rfl, bx7, by decide, by decide, by decide, fun G8 ask k8 bx8 a0 a1 => ?_⟩
          have J8 := J7.kp k8.kp bx7 ap
          obtain ⟨qi, rfl⟩ : ∃ qi : Nat, ask = (qi : Int) := ⟨ask.toNat, by omega⟩
          obtain ⟨u, hu⟩ : ∃ u, us[qi]? = some u := ⟨_, List.getElem?_eq_getElem (by rw [J8.l3]; omega)⟩
          have hm := J8.hm qi u hu
          have su := (J8.sm qi u hu).1
          obtain ⟨dx, fs, e, ff, _⟩ := hm.ho.ob
          obtain ⟨cd, hcd⟩ := hm.cd (by omega)
          have pO := hm.picOk (by omega) hcd
          have wf := hm.ho.wf
          have wl := wf.len
          have ws := wf.small
          refine ⟨_, rfl, _, rfl, bl, _, _, .ref u.s.p, rfl, rfl, SqL.of J8.eb, atI_nat (by rw [List.getElem?_map, hu]; rfl), u.s.p, dx, fs, rfl, e, ff.no _ (by decide +kernel), u.s, cd, rfl, hm.ho, by omega, fun r hr2 H' t => (hm.cdS hcd r (List.mem_filter.mp hr2).1).1 H' ((Kp.refl (S := []) (H := G8)).tk.trans t), fun v9 G9 k9 d9 => ?_⟩
          have J9 := J8.kp0 k9
          have m9 := J9.hm qi u hu
          refine ⟨_, _, rfl, pO.shw (d9 _ (Kp.refl (S := [])).tkq) (by omega) (by omega), _, rfl, _, rfl, ml, _, _, .ref u.x.m, rfl, rfl, SqL.of J9.em, atI_nat (by rw [List.getElem?_map, hu]; rfl), u.x, cd, rfl, m9.lm, by rw [hm.len]; omega, by rw [hm.eh, hm.et]; exact wf, fun r hr2 H' t => hm.cdX hcd r hr2 H' (k9.tk.trans t), fun v10 GA kA dA => ?_⟩
          rw [hm.pic] at dA
          refine ⟨_, _, rfl, pO.shw (dA _ (Kp.refl (S := [])).tkq) (by omega) (by omega), rfl, _, rfl, ?_⟩
          rw [ne_self]
          exact iteF ⟨_, _, _, _, _, _, _, rfl, us, (J9.kp0 kA).more (by omega)⟩
    -- behind all
    · rintro σ G0 ⟨v4, v5, v6, v7, v8, v9, v10, rfl, us, J0⟩
      have J0 : LJ K G0 90 lim a bl ml ns us := J0.more (by rw [List.length_map]; split <;> split <;> omega)
      refine ⟨_, rfl, bl, rfl, ⟨_, SqL.of J0.eb⟩, fun D hD => ?_⟩
      have neD : ∀ b o, G0 b = some o → b ≠ D := fun b o eb => ne_of_none eb hD
      refine lc_list (K := K) (a := bl) (xs := us.map fun u => V.ref u.s.p) (fun i H2 => Kp [] G0 H2 ∧ H2 D = some (.lst [])) ⟨fun b o eb _ => (upd_ne (neD b o eb)).trans eb, upd_same⟩ (fun i H2 _ ⟨k2, _⟩ => SqL.of (k2 _ _ J0.eb (by simp))) ?_ ?_
      · rintro i v G1 hx ⟨k1, eD⟩
        obtain ⟨u, hu, rfl⟩ : ∃ u, us[i]? = some u ∧ v = .ref u.s.p := by
          rw [List.getElem?_map] at hx
          cases ek : us[i]? with
          | none => rw [ek] at hx; cases hx
          | some u => rw [ek] at hx; exact ⟨u, rfl, (Option.some.inj hx).symm⟩
        obtain ⟨dx, fs, e, _⟩ := ((J0.kp0 k1).hm i u hu).ho.ob
        exact ⟨rfl, _, rfl, _, _, _, _, true, rfl, .own _, T.t_House.ins T.c_House e, T.y_House_Frames, _, rfl, iteF ⟨k1, eD⟩⟩
      rintro G1 ⟨k1, eD⟩
      refine ⟨(by show 0 ≤ sizeLine; decide), fun lB hlB => ⟨D, lB, _, rfl, rfl, SqL.of ((upd_ne (ne_of_none eD hlB)).trans eD), SqL.of upd_same, _, rfl, iteF ?_⟩⟩
      have k2 := k1.new (o := .lst []) hlB
      generalize upd G1 lB (.lst []) = G2 at *
      have J2 := J0.kp0 k2
      clear eD neD hD hlB k1 k2
      refine ⟨3, rfl, by decide, by decide, for_range (n := 3) (fun i σ H' => ∃ v4, σ = [some (.ref a), some (.int (lim : Int)), some (.ref bl), some (.ref ml), v4, v5, v6, v7, v8, v9, v10, none] ∧ LJ K H' 90 lim a bl ml ns us) ⟨_, rfl, J2⟩ ?_ ?_⟩
      · rintro i σ G3 hi ⟨v4, rfl, J3⟩
        rw [Int.zero_add]
        obtain ⟨u, hu⟩ : ∃ u, us[i]? = some u := ⟨_, List.getElem?_eq_getElem (by rw [J3.l3]; omega)⟩
        refine ⟨_, rfl, _, rfl, bl, _, _, .ref u.s.p, rfl, rfl, SqL.of J3.eb, atI_nat (by rw [List.getElem?_map, hu]; rfl), _, rfl, _, rfl, ml, _, _, .ref u.x.m, rfl, rfl, SqL.of J3.em, atI_nat (by rw [List.getElem?_map, hu]; rfl), _, rfl, ?_⟩
        refine ⟨u.s, u.x, ml, us.map (·.x), rfl, J3.hm i u hu, Nat.le_trans (J3.sm i u hu).1 (by decide), ?_, fun x hx => ?_, fun G4 k4 => ⟨_, rfl, iteF ⟨_, rfl, J3.kp0 k4⟩⟩⟩
        · rw [List.map_map]; exact J3.em
        · obtain ⟨w, hw, rfl⟩ := List.mem_map.mp hx
          obtain ⟨j, hj⟩ := List.getElem?_of_mem hw
          exact (J3.hm j w hj).lm
      · rintro σ G3 ⟨v4, rfl, J3⟩
        refine ⟨3, rfl, by decide, by decide, fun D hD => ?_⟩
        have kD := (Kp.refl (S := []) (H := G3)).new (o := .lst []) hD
        have JD := J3.kp0 kD
        refine lc_range (lo := 0) (n := 3) (fun i H' => H' D = some (.lst []) ∧ H' bl = some (.lst (us.map fun u => V.ref u.s.p)) ∧ H' ml = some (.lst (us.map fun u => V.ref u.x.m)) ∧ ∀ (j : Nat) (u : Hs), i ≤ j → us[j]? = some u → HM K H' u.s u.x) ⟨upd_same, JD.eb, JD.em, fun j u _ hu => JD.hm j u hu⟩ ?_ ?_
        · rintro i G4 hi ⟨eD, eb, em, hm⟩
          rw [Int.zero_add]
          obtain ⟨u, hu⟩ : ∃ u, us[i]? = some u := ⟨_, List.getElem?_eq_getElem (by rw [J3.l3]; exact hi)⟩
          have yu := hm i u (Nat.le_refl _) hu
          refine ⟨rfl, _, rfl, _, rfl, bl, _, _, .ref u.s.p, rfl, rfl, SqL.of eb, atI_nat (by rw [List.getElem?_map, hu]; rfl), _, rfl, _, rfl, ml, _, _, .ref u.x.m, rfl, rfl, SqL.of em, atI_nat (by rw [List.getElem?_map, hu]; rfl), ?_⟩
          refine ⟨u.s, u.x, rfl, yu, Nat.le_trans (J3.sm i u hu).1 (by decide), fun G5 k5 => ⟨_, rfl, iteF ?_⟩⟩
          have nD : D ∉ u.s.own ++ u.x.foot := fun z => by
            obtain ⟨o, e, _⟩ := (J3.hm i u hu).std (u := u) D (Hs.own_foot (u := u) D z)
            rw [hD] at e; cases e
          refine ⟨k5 _ _ eD nD, k5 _ _ eb (fun z => (J3.nb i u hu).1 (Hs.own_foot (u := u) _ z)), k5 _ _ em (fun z => (J3.nb i u hu).2 (Hs.own_foot (u := u) _ z)), fun j w hj hw => ?_⟩
          have dj := J3.dj i j u w hu hw (by omega)
          refine (hm j w (by omega) hw).kp k5 (fun c hc z => dj c hc (List.mem_append_left _ z)) (fun c hc z => dj c hc (List.mem_append_right _ z)) (fun c hc xs e => ?_)
          obtain ⟨o, e2, n2, _⟩ := yu.std (u := u) c (Hs.own_foot (u := u) c hc)
          rw [e] at e2; exact n2 xs (Option.some.inj e2).symm
        · rintro G4 ⟨eD, _⟩
          exact ⟨(by show 0 ≤ sizeLine; decide), fun lB hlB => ⟨D, lB, _, rfl, rfl, SqL.of ((upd_ne (ne_of_none eD hlB)).trans eD), SqL.of upd_same, q _⟩⟩
end

end Lw
namespace Lw
open PySem PySem.Spec L2 FG
open PyProof.Rows hiding St
section
variable {P : Program} {w : World} {K : PySem.W.Frag} {mg : Str → Option Value} {base : Heap}
theorem law_ok (T : Tx K mg) {fd : FuncData} (F : Fun K "law" "law" s_law (He.ga K "law") fd) : FnG P w K mg base 12 (He.ga K "law") fd ["_law_script"] (spLaw K) := by
  have M : HoM P w K mg base := ho_all T
  have m_begun : Met P w K mg base 1 (CH K) "begun" (spBegun (CH K)) := Met.of T.c_House T.m_House_begun T.F_House_begun (fun F => F.binds (ps := ["self"]) fun _ _ _ _ _ _ us hl => match us, hl with | [_], _ => rfl) fun F => ok_nbegun T T.c_House T.n_House_holders F
  have m_by : Met P w K mg base 4 (CH K) "ended_by" (spBy (CH K)) := Met.of T.c_House T.m_House_ended_by T.F_House_ended_by (fun F => F.binds (ps := ["self", "frame"]) fun _ _ _ _ _ _ us hl => match us, hl with | [_, _], _ => rfl) fun F => ok_byN T T.c_House T.n_House_takers F M.need_begun
  have m_inside : Met P w K mg base 4 (CH K) "inside" (spInside (CH K)) := Met.of T.c_House T.m_House_inside T.F_House_inside (fun F => F.binds (ps := ["self", "frame"]) fun _ _ _ _ _ _ us hl => match us, hl with | [_, _], _ => rfl) fun F => ok_inside T T.c_House T.n_House_holders F M.need_begun
  have m_twin : Met P w K mg base 5 (CH K) "twin" (spTwin K) := Met.of T.c_House T.m_House_twin T.F_House_twin (fun F => F.binds (ps := ["self"]) fun _ _ _ _ _ _ us hl => match us, hl with | [_], _ => rfl) fun F => ok_twin T F M.init
  have m_picture : Met P w K mg base 6 (CH K) "picture" (spPicture K) := Met.of T.c_House T.m_House_picture T.F_House_picture (fun F => F.binds (ps := ["self"]) fun _ _ _ _ _ _ us hl => match us, hl with | [_], _ => rfl) fun F => ok_picture T F M.standing M.rooms
  have c__law_cell : Cal P w K mg base 1 "_law_cell" (spCell K) := Cal.of T.g__law_cell T.F__law_cell (fun F => F.binds (ps := ["_law_script", "_law_k"]) fun _ _ _ _ _ _ us hl => match us, hl with | [_, _], _ => rfl) (ok_cell T)
  have c__law_box : Cal P w K mg base 1 "_law_box" spBox := Cal.of T.g__law_box T.F__law_box (fun F => F.binds (ps := ["_law_cell_here"]) fun _ _ _ _ _ _ us hl => match us, hl with | [_], _ => rfl) (ok_box T)
  have c__law_take : Cal P w K mg base 1 "_law_take" spTake := Cal.of T.g__law_take T.F__law_take (fun F => F.binds (ps := ["_law_box_here", "_law_many"]) fun _ _ _ _ _ _ us hl => match us, hl with | [_, _], _ => rfl) (ok_take T)
  have c__law_house : Cal P w K mg base 1 "_law_house" spLHouse := Cal.of T.g__law_house T.F__law_house (fun F => F.binds (ps := ["_law_limit"]) fun _ _ _ _ _ _ us hl => match us, hl with | [_], _ => rfl) (ok_lhouse T)
  have c__law_standing : Cal P w K mg base 1 "_law_standing" spLStanding := Cal.of T.g__law_standing T.F__law_standing (fun F => F.binds (ps := ["_law_model"]) fun _ _ _ _ _ _ us hl => match us, hl with | [_], _ => rfl) (ok_lstanding T)
  have c__law_row : Cal P w K mg base 1 "_law_row" spLRow := Cal.of T.g__law_row T.F__law_row (fun F => F.binds (ps := ["_law_model", "_law_frame"]) fun _ _ _ _ _ _ us hl => match us, hl with | [_, _], _ => rfl) (ok_lrow T)
  have c__law_begin : Cal P w K mg base 1 "_law_begin" spLBegin := Cal.of T.g__law_begin T.F__law_begin (fun F => F.binds (ps := ["_law_model", "_law_frame"]) fun _ _ _ _ _ _ us hl => match us, hl with | [_, _], _ => rfl) (ok_lbegin T)
  have c__law_finish : Cal P w K mg base 2 "_law_finish" spLFin := Cal.of T.g__law_finish T.F__law_finish (fun F => F.binds (ps := ["_law_model", "_law_frame"]) fun _ _ _ _ _ _ us hl => match us, hl with | [_, _], _ => rfl) fun F => ok_lfinish T F c__law_standing c__law_row
  have c__law_given : Cal P w K mg base 1 "_law_given" spLGiven := Cal.of T.g__law_given T.F__law_given (fun F => F.binds (ps := ["_law_model", "_law_frame"]) fun _ _ _ _ _ _ us hl => match us, hl with | [_, _], _ => rfl) (ok_lgiven T)
  have c__law_used : Cal P w K mg base 1 "_law_used" spLUsed := Cal.of T.g__law_used T.F__law_used (fun F => F.binds (ps := ["_law_model"]) fun _ _ _ _ _ _ us hl => match us, hl with | [_], _ => rfl) (ok_lused T)
  have c__law_make : Cal P w K mg base 2 "_law_make" spLMake := Cal.of T.g__law_make T.F__law_make (fun F => F.binds (ps := ["_law_model", "_law_frame", "_law_size"]) fun _ _ _ _ _ _ us hl => match us, hl with | [_, _, _], _ => rfl) fun F => ok_lmake T F c__law_given c__law_used
  have c__law_one : Cal P w K mg base 2 "_law_one" spOneV := Cal.of T.g__law_one T.F__law_one (fun F => F.binds (ps := ["_law_box_here", "_law_some"]) fun _ _ _ _ _ _ us hl => match us, hl with | [_, _], _ => rfl) fun F => ok_one T F c__law_take
  have c__law_here : Cal P w K mg base 1 "_law_here" spLHere := Cal.of T.g__law_here T.F__law_here (fun F => F.binds (ps := ["_law_model"]) fun _ _ _ _ _ _ us hl => match us, hl with | [_], _ => rfl) (ok_lhere T)
  have c__law_value : Cal P w K mg base 3 "_law_value" spLValue := Cal.of T.g__law_value T.F__law_value (fun F => F.binds (ps := ["_law_box_here", "_law_model"]) fun _ _ _ _ _ _ us hl => match us, hl with | [_, _], _ => rfl) fun F => ok_lvalue T F c__law_take c__law_one
  have c__law_deed : Cal P w K mg base 6 "_law_deed" (spDeed K) := Cal.of T.g__law_deed T.F__law_deed (fun F => F.binds (ps := ["_law_box_here", "_law_house_here", "_law_model"]) fun _ _ _ _ _ _ us hl => match us, hl with | [_, _, _], _ => rfl) fun F => ok_deed T F c__law_take c__law_one c__law_standing c__law_finish c__law_begin c__law_here c__law_used c__law_make c__law_value M
  have c__law_picture : Cal P w K mg base 3 "_law_picture" (spLPicture K) := Cal.of T.g__law_picture T.F__law_picture (fun F => F.binds (ps := ["_law_model"]) fun _ _ _ _ _ _ us hl => match us, hl with | [_], _ => rfl) fun F => ok_lpicture T F c__law_standing c__law_given
  have c__law_copy : Cal P w K mg base 1 "_law_copy" spLCopy := Cal.of T.g__law_copy T.F__law_copy (fun F => F.binds (ps := ["_law_model"]) fun _ _ _ _ _ _ us hl => match us, hl with | [_], _ => rfl) (ok_lcopy T)
  have c__law_by : Cal P w K mg base 5 "_law_by" (spLBy K) := Cal.of T.g__law_by T.F__law_by (fun F => F.binds (ps := ["_law_house_here", "_law_way"]) fun _ _ _ _ _ _ us hl => match us, hl with | [_, _], _ => rfl) fun F => ok_lby T F M.size
  have c__law_no_cell : Cal P w K mg base 6 "_law_no_cell" (spNoCell K) := Cal.of T.g__law_no_cell T.F__law_no_cell (fun F => F.binds (ps := ["_law_house_here", "_law_way", "_law_k"]) fun _ _ _ _ _ _ us hl => match us, hl with | [_, _, _], _ => rfl) fun F => ok_nocell T F M.get
  have c__law_caught : Cal P w K mg base 6 "_law_caught" (spCaught K) := Cal.of T.g__law_caught T.F__law_caught (fun F => F.binds (ps := ["_law_house_here", "_law_rooms", "_law_way"]) fun _ _ _ _ _ _ us hl => match us, hl with | [_, _, _], _ => rfl) fun F => ok_caught T F M.size M.put
  have c__law_apart : Cal P w K mg base 8 "_law_apart" (spApart K) := Cal.of T.g__law_apart T.F__law_apart (fun F => F.binds (ps := ["_law_house_here", "_law_model", "_law_others"]) fun _ _ _ _ _ _ us hl => match us, hl with | [_, _, _], _ => rfl) fun F => ok_apart T F c__law_here c__law_caught
  have c__law_rooms_right : Cal P w K mg base 8 "_law_rooms_right" (spRR K) := Cal.of T.g__law_rooms_right T.F__law_rooms_right (fun F => F.binds (ps := ["_law_house_here", "_law_model"]) fun _ _ _ _ _ _ us hl => match us, hl with | [_, _], _ => rfl) fun F => ok_rr T F m_inside M c__law_row c__law_here c__law_no_cell
  have c__law_right : Cal P w K mg base 10 "_law_right" (spRight K) := Cal.of T.g__law_right T.F__law_right (fun F => F.binds (ps := ["_law_house_here", "_law_model"]) fun _ _ _ _ _ _ us hl => match us, hl with | [_, _], _ => rfl) fun F => ok_right T F M m_begun m_by m_picture c__law_used c__law_standing c__law_picture c__law_by c__law_rooms_right c__law_make
  exact ok_law T F M.init m_twin m_picture c__law_house c__law_cell c__law_box c__law_take c__law_deed c__law_copy c__law_picture c__law_apart c__law_right
end

end Lw
open PySem PySem.W PySem.Calls PyProof.Rows
set_option maxHeartbeats 0 in
theorem PySem.Challenge.cw_framerooms_k15_pictures_and_twins_holds : PySem.Challenge.rw_framerooms_k15_pictures_and_twins.Holds := by
  w_on; o_law
  refine HandSHeadRun.head_any (r := OpenLaw.row PySem.Challenge.rw_framerooms_k15_pictures_and_twins) (q := view (OpenLaw.row PySem.Challenge.rw_framerooms_k15_pictures_and_twins).prog [46]) (H := Lw.hk) (ob := Lw.ob) (M := 9000) (loose := Lw.names0 ++ Lw.names1) (d := HandSHeadRun.topDef (OpenLaw.row PySem.Challenge.rw_framerooms_k15_pictures_and_twins).prog 46) (kwd := []) Lw.ob_eq
    (by kernel_rfl) (fun s => by kernel_rfl) Lw.run (by kernel_rfl) (by kernel_rfl) (by kernel_rfl) (by rfl) (by first | assumption | decide +kernel) (by decide +kernel) ⟨rfl, rfl, rfl, rfl, rfl, by decide +kernel⟩ ?hw ?hc
  case hw => w_witness2
  case hc =>
    refine FG.walk_G (l := PySem.Challenge.rw_framerooms_k15_pictures_and_twins) (n := 63) (k := 12) (x := "_law_script") rfl (by decide) (by kernel_rfl) ⟨rfl, by decide, by decide⟩ ?F
    intro w mg fa h Y G hmg0
    obtain ⟨K, KX, c⟩ := Y
    have hmg : mg ("law" : PySem.Str) = some (.ref fa) := by
      have e : (HandSHeadRun.topDef (OpenLaw.row PySem.Challenge.rw_framerooms_k15_pictures_and_twins).prog 46).name = ("law" : PySem.Str) := by kernel_rfl
      rw [← e]
      exact hmg0
    have T : Lw.Tx K mg := Lw.tx_of KX G c.1 c.2
    have e := hmg.symm.trans T.g_law
    cases e
    obtain ⟨fd, F⟩ := T.F_law
    have b := F.binds (ps := ["_law_script"]) fun _ _ _ _ _ _ us hl => match us, hl with | [_], _ => rfl
    refine ⟨K, fd, Lw.spLaw K, KX, fun s u => ?_, fun H a ns hl bits hO hS => ⟨a, ns, rfl, hl, Lw.Scr.of hO hS, fun _ => rfl⟩, fun base _ _ => Lw.law_ok T F⟩
    have F2 := F
    obtain ⟨oc, od, kV, doc, pm, an, cdv, ct, osl, rfl, lk, hcd⟩ := F2.ex
    exact BindsTo.of_eq rfl
