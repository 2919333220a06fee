import PyProof.Rows.All
import Wide.All
import OpenK.AllK
import Wide.FinOn
import HandS.ForMost
import HandS.Exc
import HandS.ExcOwn
import HandS.ExcInit
import HandS.ExcIs
import HandS.ExcField
import KE.KExcIs
import HandS.TryOnly
import HandS.TryMany
import HandS.WordsExc
import HandS.Defaults
import HandS.Flow
import HandS.Style
import HandS.More
import HandS.Wide
import HandS.Walk
import HandS.Conv
import PyProof.DictMoreH
import HandS.DictTup
import HandS.DictSubView
import HandS.HotCalls
import KE.DataFind
import KE.KDictCopyH
import HandS.Zip
import HandS.Rev
import HandS.IsInst
import HandS.EndBits
import HandS.Head0
import HandS.Head1
import HandS.Head2
import HandS.HeadEnd
import HandS.HeadHook1
import HandS.HeadHook2
import HandS.HeadHook3
import HandS.HeadHook4
import HandS.Deep
import PySem.Challenge.RW_framerooms_k02_values_as_texts
set_option Elab.async false
set_option linter.all false
set_option maxRecDepth 100000
set_option maxHeartbeats 4000000
/-! GBase: calls whose frames know that no repr is running (guards), for defs that may raise; repr of data. Own layer over HandS. -/
namespace FG
open PySem PySem.Spec L2
open PyProof.Rows hiding St

/-- room for calls, and no guard stands around -/
structure RG (k : Nat) (A : Around) : Prop where
  r : Room k A
  g : A.guards = some []
theorem RG.mono {j k : Nat} {A : Around} (h : RG k A) (q : j ≤ k := by decide) : RG j A := ⟨h.r.mono q, h.g⟩
theorem RG.hu {k : Nat} {A : Around} (h : RG k A) : A.units + 1 < cLine := hu_of h.r
theorem RG.u65 {k : Nat} {A : Around} (h : RG k A) : A.units + 65 < cLine := by have := h.r.un; omega

/-- a def's promise where the guards are known -/
structure FnG (P : Program) (w : World) (K : PySem.W.Frag) (mg : Str → Option Value) (base : Heap) (k : Nat) (f : Addr) (fd : FuncData) (ps : List Str) (sp : Sp) : Prop where
  nargs : ∀ vs H Q E, sp vs H Q E → vs.length = ps.length
  goes : ∀ (A : Around) (outer : List Env) (s : Shared) (H : Hp) (ar : Args) (us : List Value) (vs : List V) (Q : VK) (E : XK),
    RG k A → Env0 P w K mg base A outer s H → BindsTo s fd ar (ps.zip us) → Vals vs us → sp vs H Q E → codeAny (model P w) A (.call (.ref f) ar) (CR (L2.CX P w) outer P w H s Q E) s
theorem FnG.weaker {P : Program} {w : World} {K : PySem.W.Frag} {mg : Str → Option Value} {base : Heap} {k : Nat} {f : Addr} {fd : FuncData} {ps : List Str} {sp sp' : Sp} (F : FnG P w K mg base k f fd ps sp)
    (h : ∀ vs H Q E, sp' vs H Q E → sp vs H Q E) : FnG P w K mg base k f fd ps sp' :=
  ⟨fun vs H Q E z => F.nargs vs H Q E (h _ _ _ _ z), fun A outer s H ar us vs Q E a b c d z => F.goes A outer s H ar us vs Q E a b c d (h _ _ _ _ z)⟩

section
variable {P : Program} {w : World} {K : PySem.W.Frag} {mg : Str → Option Value} {base : Heap}
/-- a def of the text, by its body -/
theorem FnG.of {x qual : Str} {st : Stmt} {f : Addr} {fd : FuncData} {N ps : List Str} {k : Nat} {sp : Sp} (F : Fun K x qual st f fd) (S : FnScope N ps (defScope st)) (hn : ∀ vs H Q E, sp vs H Q E → vs.length = ps.length)
    (hb : ∀ (cdv : Value) (A : Around) (outer : List Env) (s : Shared) (H : Hp) (vs : List V) (Q : VK) (E : XK), RG k (A.deeper (envOfC qual (defScope st) s.heap.objs.size f cdv)) → sp vs H Q E →
      ∃ t, PSs (cxOf (L2.CX P w) P w K mg base N qual (defScope st) f cdv A outer s H E) (defBody st) t ∧ t { nx := fun _ H' => Q .non H', rt := Q } (start N vs) H) : FnG P w K mg base (k + 1) f fd ps sp := by
  obtain ⟨oc, od, kV, doc, pm, an, cdv, ct, osl, rfl, lk, hcd⟩ := F.ex
  refine ⟨hn, fun A outer s H ar us vs Q E hg env0 bnd rel hsp => ?_⟩
  have len := hn _ _ _ _ hsp
  have inK : K.In s.heap := env0.mod.kin.keeps fun b o z => (env0.bs b o z).1
  have nol : s.heap.NoLimit := env0.mod.nolimit.keeps fun b o z => (env0.bs b o z).1
  have hk : ∀ y ∈ ps.zip us, (defScope st).names.lookup y.1 = some .local ∨ ((defScope st).names.lookup y.1 = some .cell ∧ ((cellsFrom (s.heap.objs.size + 1) (defScope st).names []).lookup y.1).isSome = true) := by
    rintro ⟨n, v⟩ hy
    exact (S.par n (List.of_mem_zip hy).1).elim .inl fun q => .inr ⟨q, PySem.W.cellsFrom_some _ _ _ (.inl q)⟩
  refine codeAny_call_function hg.r.depth (inK _ _ lk) rfl S.co S.gen rfl (PySem.W.codeRec_of inK hcd) (bnd _ _ _ _ ?_)
  refine wpAny_newFunctionEnv_cells S.kind hk fun env ee s1 inc => ?_
  subst ee
  refine ⟨nol.keeps inc.toInCall.keep, codeAny_func ?_⟩
  obtain ⟨t, ht, hq⟩ := hb cdv A outer s H vs Q E ⟨hg.r.deeper _, hg.g⟩ hsp
  have I0 : Inv (cxOf (L2.CX P w) P w K mg base N qual (defScope st) f cdv A outer s H E) [] (start N vs) H s1 := inv_start S hg.r.hd env0 len rel inc
  refine wpAny_mono (ht.run [] s1 (start N vs) H _ I0 hq) (fun fl s2 hs => ?_) fun _ _ hs => hs
  have fin : ∀ {σ2 : St} {H2 : Hp} {v : V} {u : Value}, Inv (cxOf (L2.CX P w) P w K mg base N qual (defScope st) f cdv A outer s H E) [] σ2 H2 s2 → RelV v u → Q v H2 → CE outer P w H s Q u s2 := by
    intro σ2 H2 v u J rv q
    exact ⟨v, H2, J.os, J.bare, J.base, J.hok, rv, q⟩
  match fl, hs with
  | .ret u, ⟨v, σ2, H2, J, rv, q⟩ => exact fin J rv q
  | .next, ⟨σ2, H2, J, q⟩ => exact fin (v := V.non) (u := Value.none) J rfl q
  | .brk, ⟨_, _, _, q⟩ => exact q.elim
  | .cont, ⟨_, _, _, q⟩ => exact q.elim
end

/-! ### defs, methods, classes as their callers see them -/
/-- the module's def x keeps sp -/
structure Cal (P : Program) (w : World) (K : PySem.W.Frag) (mg : Str → Option Value) (base : Heap) (k : Nat) (x : Str) (sp : Sp) : Prop where
  ex : ∃ (f : Addr) (fd : FuncData) (ps : List Str), FnG P w K mg base k f fd ps sp ∧ mg x = some (.ref f) ∧ PySem.W.keepIn K (.ref f) = true ∧ Binds K fd ps []
/-- the method m of the class at C keeps sp -/
structure Met (P : Program) (w : World) (K : PySem.W.Frag) (mg : Str → Option Value) (base : Heap) (k : Nat) (C : Addr) (m : Str) (sp : Sp) : Prop where
  ex : ∃ (f : Addr) (fd : FuncData) (ps : List Str), Cls K C ∧ Meth K C m f ∧ FnG P w K mg base k f fd ps sp ∧ Binds K fd ps []
/-- the class x, at C, is made by an __init__ that keeps sp -/
structure Mak (P : Program) (w : World) (K : PySem.W.Frag) (mg : Str → Option Value) (base : Heap) (k : Nat) (x : Str) (C : Addr) (sp : Sp) : Prop where
  ex : ∃ (f : Addr) (fd : FuncData) (ps : List Str), Mk K C f ∧ FnG P w K mg base k f fd ps sp ∧ mg x = some (.ref C) ∧ Binds K fd ps []

theorem make_guards {A : Around} {C : Addr} {us : List Value} {kw : List (Str × Value)} : (A.under (.builtin "type.__call__" ⟨.ref C :: us, kw⟩)).guards = A.guards := by
  first | rfl | simp [Around.under, Code.guards, Code.isGuard, guardIds, pushGuards]

/-- a call's reading: the arguments, then the promise; W: what is wanted of an exception -/
def tG (sp : Sp) (W : WX) (t : TA) : TE := fun σ H Q => t σ H fun vs H1 => sp vs H1 Q (fun cls d H2 => W cls d σ H2)
/-- o.m(..) -/
def tGm (C : Addr) (m : Str) (sp : Sp) (W : WX) (ta : TE) (t : TA) : TE := fun σ H Q => ta σ H fun x H1 => ∃ a dx fs, x = .ref a ∧ H1 a = some (.ins C dx fs) ∧ fs.lookup m = none ∧
  t σ H1 fun vs H2 => sp (x :: vs) H2 Q (fun cls d H3 => W cls d σ H3)
/-- C(..) -/
def tGk (C : Addr) (sp : Sp) (W : WX) (t : TA) : TE := fun σ H Q => t σ H fun vs H1 => ∀ x dx, H1 x = none → H1 dx = none → dx ≠ x →
  sp (.ref x :: vs) (upd (upd H1 dx (.own x)) x (.ins C dx [])) (fun v H2 => v = .non ∧ Q (.ref x) H2) (fun cls d H2 => W cls d σ H2)

section
variable {X : Cx} {k : Nat} {f C : Addr} {fd : FuncData} {ps : List Str} {sp : Sp} {W : WX} {x m : Str} {p pos apos : Pos} {e o : Expr} {es : List Expr} {ta : TE} {t : TA}

theorem runs {pins : List (Addr × Obj)} {σ : St} {H : Hp} {s : Shared} {Q : VK} {us : List Value} {vs : List V} (F : FnG X.prog X.w X.K X.mg X.base k f fd ps sp) (hr : RG k X.A) (hb : Binds X.K fd ps []) (tk : Takes X W)
    (I : Inv X pins σ H s) (r : Vals vs us) (h : sp vs H Q (fun cls d H2 => W cls d σ H2)) : wpAny (model X.prog X.w) X.A (call (.ref f) us) (EP X pins σ Q) X.xe s := by
  have ln : us.length = ps.length := r.length.symm.trans (F.nargs _ _ _ _ h)
  have b := hb s us I.kIn (by simpa using ln)
  rw [List.append_nil] at b
  refine wpAny_call (codeAny_mono (F.goes X.A X.stack s H ⟨us, []⟩ us vs Q _ hr I.env0 b r h) fun q s2 hq => ?_)
  match q, hq with
  | .error e, hq => exact passAt tk σ pins H s e s2 I hq
  | .ok (.ret u), hq => exact I.after hq
  | .ok .next, hq => exact hq.elim
  | .ok .brk, hq => exact hq.elim
  | .ok .cont, hq => exact hq.elim

theorem gc (c : Cal X.prog X.w X.K X.mg X.base k x sp) (hr : RG k X.A) (tk : Takes X W) (ha : PA X (e :: es) t) (hg : Gl X x := by rfl) (hdb : (x == ("__debug__" : Str)) = false := by decide)
    (he : starEach (e :: es) X.env = (false, eval e X.env) :: starEach es X.env := by rfl) (hpl : (backTo pos (starEach es X.env)).any (·.1) = false := by rfl) : PE X (.Call (.Name x p) (e :: es) [] pos) (tG sp W t) := by
  obtain ⟨f, fd, ps, F, hm, hk, hb⟩ := c.ex
  refine ⟨fun pins s σ H Q I h => wpAny_Call_Name_kw (ld_glob I hg hm ?_ hdb)⟩
  exact PySem.W.callWith_K (h₀ := X.base) I.ok.mod.kin hk (thn (ha.run pos pins s σ H _ I h) fun us s1 ⟨vs, H1, I1, r, q⟩ => ⟨I1.kIn, runs F hr hb tk I1 r q⟩) he hpl
theorem gc0 (c : Cal X.prog X.w X.K X.mg X.base k x sp) (hr : RG k X.A) (tk : Takes X W) (hg : Gl X x := by rfl) (hdb : (x == ("__debug__" : Str)) = false := by decide) : PE X (.Call (.Name x p) [] [] pos) (tG sp W tNil) := by
  obtain ⟨f, fd, ps, F, hm, hk, hb⟩ := c.ex
  exact ⟨fun pins s σ H Q I h => wpAny_Call_Name_kw (ld_glob I hg hm (PySem.W.callWith_K0 I.kIn hk (runs (us := []) F hr hb tk I .nil h)) hdb)⟩

theorem gm {pl : Sem Bool} (c : Met X.prog X.w X.K X.mg X.base k C m sp) (hr : RG k X.A) (tk : Takes X W) (he : PE X o ta) (ha : PA X (e :: es) t)
    (hst : starEach (e :: es) X.env = (false, eval e X.env) :: starEach es X.env := by rfl) (hpl : (backTo pos (starEach es X.env)).any (·.1) = false := by rfl)
    (ht : eval (.Call (.Attribute o m apos) (e :: es) [] pos) X.env = (do let ov ← eval o X.env; standAt apos.atName; let (f, first) ← holding [ov] (getMethod ov m pl); callWith pos f first (backTo pos (starEach (e :: es) X.env)) (backToKw pos (keywordEach [] X.env))) := by rfl) :
    PE X (.Call (.Attribute o m apos) (e :: es) [] pos) (tGm C m sp W ta t) := by
  obtain ⟨f, fd, ps, cl, hm, F, hb⟩ := c.ex
  refine ⟨fun pins s σ H Q I h => PySem.W.methodCall_KW (pl := pl) (thn (he.run pins s σ H _ I h) fun u s1 ⟨x, H1, I1, rx, a, dx, fs, ex, ea, l, q⟩ => ?_) ht⟩
  subst ex
  obtain rfl : u = Value.ref a := rx
  refine getmeth_ok I1 ea cl hm l (PySem.W.callWith_K (first := [.ref a]) (h₀ := X.base) I.ok.mod.kin hm.kp (thn (ha.run pos pins s1 σ H1 _ I1 q) fun us s2 ⟨vs, H2, I2, r, q2⟩ => ⟨I2.kIn, ?_⟩) hst hpl)
  exact runs (us := .ref a :: us) (vs := .ref a :: vs) F hr hb tk I2 (.cons rfl r) q2
theorem gm0 {pl : Sem Bool} (c : Met X.prog X.w X.K X.mg X.base k C m sp) (hr : RG k X.A) (tk : Takes X W) (he : PE X o ta)
    (ht : eval (.Call (.Attribute o m apos) [] [] pos) X.env = (do let ov ← eval o X.env; standAt apos.atName; let (f, first) ← holding [ov] (getMethod ov m pl); callWith pos f first (backTo pos (starEach [] X.env)) (backToKw pos (keywordEach [] X.env))) := by rfl) :
    PE X (.Call (.Attribute o m apos) [] [] pos) (tGm C m sp W ta tNil) := by
  obtain ⟨f, fd, ps, cl, hm, F, hb⟩ := c.ex
  refine ⟨fun pins s σ H Q I h => PySem.W.methodCall_KW (pl := pl) (thn (he.run pins s σ H _ I h) fun u s1 ⟨x, H1, I1, rx, a, dx, fs, ex, ea, l, q⟩ => ?_) ht⟩
  subst ex
  obtain rfl : u = Value.ref a := rx
  exact getmeth_ok I1 ea cl hm l (PySem.W.callWith_K0 (first := [.ref a]) I1.kIn hm.kp (runs (us := [.ref a]) (vs := [.ref a]) F hr hb tk I1 (.cons rfl .nil) q))

theorem makes {pins : List (Addr × Obj)} {σ : St} {H : Hp} {s : Shared} {Q : VK} {us : List Value} {vs : List V} (M : Mk X.K C f) (F : FnG X.prog X.w X.K X.mg X.base k f fd ps sp) (hr : RG (k + 1) X.A) (hb : Binds X.K fd ps []) (tk : Takes X W)
    (I : Inv X pins σ H s) (r : Vals vs us) (h : ∀ x dx, H x = none → H dx = none → dx ≠ x → sp (.ref x :: vs) (upd (upd H dx (.own x)) x (.ins C dx [])) (fun v H2 => v = .non ∧ Q (.ref x) H2) (fun cls d H2 => W cls d σ H2)) :
    wpAny (model X.prog X.w) X.A (call (.ref C) us) (EP X pins σ Q) X.xe s := by
  have hq := h (s.heap.objs.size + 1) s.heap.objs.size (I.hok.fresh (Nat.le_succ _)) (I.hok.fresh (Nat.le_refl _)) (Nat.ne_of_lt (Nat.lt_succ_self _))
  have I2 := Inv.made (C := C) I
  have r2 : Vals (V.ref (s.heap.objs.size + 1) :: vs) (Value.ref (s.heap.objs.size + 1) :: us) := .cons rfl r
  have ln : (Value.ref (s.heap.objs.size + 1) :: us).length = ps.length := r2.length.symm.trans (F.nargs _ _ _ _ hq)
  have b := hb _ (Value.ref (s.heap.objs.size + 1) :: us) I2.kIn (by simpa using ln)
  rw [List.append_nil] at b
  refine wpAny_call (make_map (f := f) I.kIn M.makes M.init (beq_iff_eq.mp M.fn) (codeAny_mono (F.goes _ X.stack _ _ ⟨Value.ref (s.heap.objs.size + 1) :: us, []⟩ (Value.ref (s.heap.objs.size + 1) :: us) _ _ _ ⟨hr.r.make C us [], make_guards.trans hr.g⟩ (I2.env0.make C us []) b r2 hq) fun q s2 hq2 => ?_))
  match q, hq2 with
  | .error e, hq2 => exact passAt tk σ pins _ _ e s2 I2 hq2
  | .ok (.ret u), hq2 =>
    obtain ⟨v, H3, I3, rv, ev, q3⟩ := I2.after hq2
    subst ev
    exact ⟨rv, ⟨V.ref (s.heap.objs.size + 1), H3, I3, rfl, q3⟩⟩
  | .ok .next, hq2 => exact hq2.elim
  | .ok .brk, hq2 => exact hq2.elim
  | .ok .cont, hq2 => exact hq2.elim
theorem gk (c : Mak X.prog X.w X.K X.mg X.base k x C sp) (hr : RG (k + 1) X.A) (tk : Takes X W) (ha : PA X (e :: es) t) (hg : Gl X x := by rfl) (hdb : (x == ("__debug__" : Str)) = false := by decide)
    (he : starEach (e :: es) X.env = (false, eval e X.env) :: starEach es X.env := by rfl) (hpl : (backTo pos (starEach es X.env)).any (·.1) = false := by rfl) : PE X (.Call (.Name x p) (e :: es) [] pos) (tGk C sp W t) := by
  obtain ⟨f, fd, ps, M, F, hm, hb⟩ := c.ex
  refine ⟨fun pins s σ H Q I h => wpAny_Call_Name_kw (ld_glob I hg hm ?_ hdb)⟩
  exact PySem.W.callWith_K (h₀ := X.base) I.ok.mod.kin M.kp (thn (ha.run pos pins s σ H _ I h) fun us s1 ⟨vs, H1, I1, r, q⟩ => ⟨I1.kIn, makes M F hr hb tk I1 r q⟩) he hpl
theorem gk0 (c : Mak X.prog X.w X.K X.mg X.base k x C sp) (hr : RG (k + 1) X.A) (tk : Takes X W) (hg : Gl X x := by rfl) (hdb : (x == ("__debug__" : Str)) = false := by decide) : PE X (.Call (.Name x p) [] [] pos) (tGk C sp W tNil) := by
  obtain ⟨f, fd, ps, M, F, hm, hb⟩ := c.ex
  exact ⟨fun pins s σ H Q I h => wpAny_Call_Name_kw (ld_glob I hg hm (PySem.W.callWith_K0 I.kIn M.kp (makes (us := []) M F hr hb tk I .nil h)) hdb)⟩
end

/-! ### repr -/
section
variable {X : Cx}
/-! data in which an empty dict may lie, all of it tracked -/
mutual
inductive DpE (H : Hp) : V → PyData → Prop
  | non : DpE H .non .none
  | bl (b : Bool) : DpE H (.bl b) (.bool b)
  | int (i : Int) : DpE H (.int i) (.int i)
  | str (x : Str) : DpE H (.str x) (.str x)
  | emp {a : Addr} : H a = some (.dK []) → DpE H (.ref a) (.dict [])
  | lst {a : Addr} {xs : List V} {ds : List PyData} : H a = some (.lst xs) → a ≠ sysModules → DpEs H xs ds → DpE H (.ref a) (.list ds)
  | tup {a : Addr} {xs : List V} {ds : List PyData} : H a = some (.tup xs) → DpEs H xs ds → DpE H (.ref a) (.tuple ds)
inductive DpEs (H : Hp) : List V → List PyData → Prop
  | nil : DpEs H [] []
  | cons {v : V} {vs : List V} {d : PyData} {ds : List PyData} : DpE H v d → DpEs H vs ds → DpEs H (v :: vs) (d :: ds)
end
mutual
theorem DpE.reads {pins : List (Addr × Obj)} {σ : St} {H : Hp} {s : Shared} (I : Inv X pins σ H s) : ∀ (d : PyData) (v : V) (u : Value), DpE H v d → RelV v u → ∃ as, Reads s.heap u d as ∧ sysModules ∉ as
  | .none, _, _, h, r => by
    cases h
    cases r
    exact ⟨_, Reads.none, by simp⟩
  | .bool b, _, _, h, r => by
    cases h
    cases r
    exact ⟨_, Reads.bool b, by simp⟩
  | .int i, _, _, h, r => by
    cases h
    obtain ⟨t, rfl⟩ := r
    exact ⟨_, Reads.int i t, by simp⟩
  | .str x, _, _, h, r => by
    cases h
    obtain ⟨t, rfl⟩ := r
    exact ⟨_, Reads.str x t, by simp⟩
  | .list ds, _, _, h, r => by
    cases h with
    | lst hs hns ha =>
      cases r
      obtain ⟨its, rv, ⟨o, n, ho, hc, _, hd⟩, _⟩ := I.list (SqL.of (K := X.K) hs)
      obtain ⟨as, hr, hn⟩ := DpE.readsAll I ds _ its ha rv
      exact ⟨_, Reads.list ho hc hd hr, by
        rw [List.mem_cons, not_or]
        exact ⟨hns.symm, hn⟩⟩
  | .tuple ds, _, _, h, r => by
    cases h with
    | tup hs ha =>
      cases r
      obtain ⟨its, rv, ⟨o, ho, hc, n, hd⟩, _⟩ := I.tuple (SqT.of (K := X.K) hs)
      obtain ⟨as, hr, hn⟩ := DpE.readsAll I ds _ its ha rv
      exact ⟨_, Reads.tuple ho hc hd hr, hn⟩
  | .dict kvs, _, _, h, r => by
    cases h with
    | emp hs =>
      cases r
      obtain ⟨z, hm, vs, rel, dd⟩ := dk_of I.hok hs
      cases rel
      obtain ⟨o, es, ep, ho, hx, hdt, he, hp, _⟩ := dd
      have e0 : es.toList = [] := by
        cases e : es.toList with
        | nil => rfl
        | cons x y => rw [e] at hp; cases hp
      refine ⟨_, Reads.dict (kvs := []) (as := []) (bs := []) ho hx.1 hdt (by rw [e0]; exact .nil) (by rw [e0]; exact .nil), ?_⟩
      simp only [List.append_nil, List.mem_cons, List.not_mem_nil, or_false]
      exact (beq_eq_false_iff_ne.mp hm).symm
theorem DpE.readsAll {pins : List (Addr × Obj)} {σ : St} {H : Hp} {s : Shared} (I : Inv X pins σ H s) : ∀ (ds : List PyData) (vs : List V) (us : List Value), DpEs H vs ds → Vals vs us → ∃ as, ReadsAll s.heap us ds as ∧ sysModules ∉ as
  | [], _, _, h, r => by
    cases h
    cases r
    exact ⟨_, ReadsAll.nil, by simp⟩
  | d :: ds, _, _, h, r => by
    cases h with
    | cons h1 h2 =>
      cases r with
      | cons r1 r2 =>
        obtain ⟨as, q1, n1⟩ := DpE.reads I d _ _ h1 r1
        obtain ⟨bs, q2, n2⟩ := DpE.readsAll I ds _ _ h2 r2
        exact ⟨_, ReadsAll.cons q1 q2, by rw [List.mem_append, not_or]; exact ⟨n1, n2⟩⟩
end
/-- repr(v), v data: its text -/
structure Shw (K : PySem.W.Frag) (H : Hp) (v : V) (d : PyData) : Prop where
  dp : Dp K H v d ∨ DpE H v d
  ok : d.showable = true
  len : d.shown.length ≤ sizeLine
  dep : d.depth ≤ 60
def rRepr (K : PySem.W.Frag) (vs : List V) (H : Hp) (Q : VK) : Prop := ∃ v d, vs = [v] ∧ Shw K H v d ∧ Q (.str d.shown) H
mutual
theorem dp_plain {K : PySem.W.Frag} {H : Hp} : ∀ (d : PyData) (v : V), Dp K H v d → d.hasDict = false
  | .none, _, _ => by simp only [PyData.hasDict]
  | .bool _, _, _ => by simp only [PyData.hasDict]
  | .int _, _, _ => by simp only [PyData.hasDict]
  | .str _, _, _ => by simp only [PyData.hasDict]
  | .list ds, _, h => by
    cases h with
    | lst _ a => simp only [PyData.hasDict]; exact dp_plains ds _ a
  | .tuple ds, _, h => by
    cases h with
    | tup _ a => simp only [PyData.hasDict]; exact dp_plains ds _ a
  | .dict _, _, h => by cases h
theorem dp_plains {K : PySem.W.Frag} {H : Hp} : ∀ (ds : List PyData) (vs : List V), DpAll K H vs ds → PyData.hasDictAll ds = false
  | [], _, _ => by simp only [PyData.hasDictAll]
  | d :: ds, _, h => by
    cases h with
    | cons a b => simp only [PyData.hasDictAll, dp_plain d _ a, dp_plains ds _ b, Bool.or_self]
end
theorem call_repr {k : Nat} (hr : RG k X.A) : CallR X (.builtin "repr") (rRepr X.K) := by
  intro pins s σ H xs us Q I r h
  obtain ⟨v, d, rfl, ⟨hd, hs, hl, hdp⟩, q⟩ := h
  obtain ⟨u, rfl, ru⟩ := vals1 r
  have un := hr.r.units
  rcases hd with hd | hd
  rotate_left
  · cases hd with
    | non => cases ru; exact PySem.P.repr_of_none ⟨.str _, H, I.tok _, ⟨_, rfl⟩, by simpa only [PyData.shown] using q⟩
    | bl b => cases ru; exact PySem.P.repr_of_bool ⟨.str _, H, I.tok _, ⟨_, rfl⟩, by simpa only [PyData.shown] using q⟩
    | int i =>
      obtain ⟨t, rfl⟩ := ru
      exact PySem.P.repr_of_int (by simpa only [PyData.showable, decide_eq_true_eq] using hs) ⟨.str _, H, I.tok _, ⟨_, rfl⟩, by simpa only [PyData.shown] using q⟩
    | str x =>
      obtain ⟨t, rfl⟩ := ru
      exact PySem.P.repr_of_str ⟨.str _, H, I.tok _, ⟨_, rfl⟩, by simpa only [PyData.shown] using q⟩ (by simpa only [PyData.shown] using hl)
    | emp a =>
      obtain rfl := ru
      obtain ⟨as, rd, nas⟩ := DpE.reads I _ _ _ (DpE.emp a) rfl
      exact repr_of_reads' rd hs (fun _ => nas) hr.g (by omega) (fun _ _ z => z) (fun h' u tk kp => ⟨.str _, H, I.kept kp, ⟨_, rfl⟩, q⟩) hl
    | lst a n b =>
      obtain rfl := ru
      obtain ⟨as, rd, nas⟩ := DpE.reads I _ _ _ (DpE.lst a n b) rfl
      exact repr_of_reads' rd hs (fun _ => nas) hr.g (by omega) (fun _ _ z => z) (fun h' u tk kp => ⟨.str _, H, I.kept kp, ⟨_, rfl⟩, q⟩) hl
    | tup a b =>
      obtain rfl := ru
      obtain ⟨as, rd, nas⟩ := DpE.reads I _ _ _ (DpE.tup a b) rfl
      exact repr_of_reads' rd hs (fun _ => nas) hr.g (by omega) (fun _ _ z => z) (fun h' u tk kp => ⟨.str _, H, I.kept kp, ⟨_, rfl⟩, q⟩) hl
  cases hd with
  | non => cases ru; exact PySem.P.repr_of_none ⟨.str _, H, I.tok _, ⟨_, rfl⟩, by simpa only [PyData.shown] using q⟩
  | bl b => cases ru; exact PySem.P.repr_of_bool ⟨.str _, H, I.tok _, ⟨_, rfl⟩, by simpa only [PyData.shown] using q⟩
  | int i =>
    obtain ⟨t, rfl⟩ := ru
    exact PySem.P.repr_of_int (by simpa only [PyData.showable, decide_eq_true_eq] using hs) ⟨.str _, H, I.tok _, ⟨_, rfl⟩, by simpa only [PyData.shown] using q⟩
  | str x =>
    obtain ⟨t, rfl⟩ := ru
    exact PySem.P.repr_of_str ⟨.str _, H, I.tok _, ⟨_, rfl⟩, by simpa only [PyData.shown] using q⟩ (by simpa only [PyData.shown] using hl)
  | lst a b =>
    obtain rfl := ru
    have hd2 := Dp.lst a b
    obtain ⟨as, rd⟩ := Dp.reads I _ _ _ hd2 rfl
    exact repr_of_reads' rd hs (PyData.noDict_hsm (dp_plain _ _ hd2)) hr.g (by omega) (fun _ _ z => z) (fun h' u tk kp => ⟨.str _, H, I.kept kp, ⟨_, rfl⟩, q⟩) hl
  | tup a b =>
    obtain rfl := ru
    have hd2 := Dp.tup a b
    obtain ⟨as, rd⟩ := Dp.reads I _ _ _ hd2 rfl
    exact repr_of_reads' rd hs (PyData.noDict_hsm (dp_plain _ _ hd2)) hr.g (by omega) (fun _ _ z => z) (fun h' u tk kp => ⟨.str _, H, I.kept kp, ⟨_, rfl⟩, q⟩) hl
theorem pe_repr {k : Nat} {x : Str} {p pos : Pos} {e : Expr} {te : TE} (hr : RG k X.A) (hm : X.mg "repr" = none) (he : PE X e te) (hg : Gl X "repr" := by rfl)
    (hs : starEach (e :: []) X.env = (false, eval e X.env) :: starEach [] X.env := by rfl) (hpl : (backTo pos (starEach [] X.env)).any (·.1) = false := by rfl) :
    PE X (.Call (.Name "repr" p) [e] [] pos) (tCB (rRepr X.K) (tCons te tNil)) := pe_callB (call_repr hr) hg hm boot_repr (pa_cons he pa_nil hs) (by decide) (by decide) hs hpl
end
end FG

/-! GEnd: the end of a law whose def keeps its promise where the guards are known. -/
namespace FG
open PySem PySem.Spec L2
open PyProof.Rows hiding St

theorem law_runs {P : Program} {w : World} {K : PySem.W.Frag} {mg mb : Str → Option Value} {k : Nat} {fa a : Addr} {fd : FuncData} {x : Str} {sp : Sp} {s : Shared} {vs : List Value} {ns : List Int}
    (inK : K.In s.heap) (gl : s.heap.Ns mainGlobals mg) (bl : s.heap.Ns builtinsNs mb) (bb : ∀ y : Str, y ≠ "__name__" → mb y = bootBuiltins y) (nol : s.heap.NoLimit) (gens : s.gens = #[])
    (la : s.heap.get? a = some { cls := .type "list", data := .seq vs.toArray }) (li : IntsAre vs ns) (ln : ns.length ≤ sizeLine) (hr : Room k callerA)
    (F : ∀ base : Heap, K.In base → base.Ns mainGlobals mg → FnG P w K mg base k fa fd [x] sp) (bnd : ∀ (s : Shared) (u : Value), BindsTo s fd ⟨[u], []⟩ [(x, u)])
    (hsp : ∀ H : Hp, Only H → SqL K H a (ns.map V.int) → sp [.ref a] H (fun v _ => v = .bl true) fun _ _ _ => False) :
    codeAny (model P w) callerA (.call (.ref fa) ⟨[.ref a], []⟩) (fun r s' => r = .ok (.ret (.bool true)) ∧ OldK s.heap s'.heap ∧ s'.os = s.os ∧ AllBare s'.gens) s := by
  have rels := vals_ints li
  have lens := li.length
  have main : ∀ H : Hp, Only H → SqL K H a (ns.map V.int) → HOk P w H s.heap → (∀ b u, H b = some u → b = a) → (∀ u, H a = some u → K.lookup a = none) →
      codeAny (model P w) callerA (.call (.ref fa) ⟨[.ref a], []⟩) (fun r s' => r = .ok (.ret (.bool true)) ∧ OldK s.heap s'.heap ∧ s'.os = s.os ∧ AllBare s'.gens) s := by
    intro H only seq hok atA notK
    have noDict : ∀ {b : Addr} {o : Obj} {es : Array DictEntry} {ep : Nat}, s.heap.get? b = some o → o.data = .dict es ep → H b = none := by
      intro b o es ep e d
      cases q : H b with
      | none => rfl
      | some u =>
        obtain rfl := atA b u q
        rw [la] at e
        cases e
        cases (show Data.seq vs.toArray _ = Data.dict es ep from d)
    have ns2 : ∀ {b : Addr} {m : Str → Option Value}, s.heap.Ns b m → (hidT s.heap H).Ns b m := by
      rintro b m ⟨o, es, ep, e, d, r⟩
      exact ⟨o, es, ep, hidT_get e (noDict e d), d, r⟩
    have inK2 : K.In (hidT s.heap H) := by
      intro b o e
      refine hidT_get (inK b o e) ?_
      cases q : H b with
      | none => rfl
      | some u =>
        obtain rfl := atA b u q
        rw [notK u q] at e
        cases e
    have md : Mod K mg (hidT s.heap H) := by
      obtain ⟨mc, c1, c2⟩ := nol
      exact ⟨inK2, ns2 gl, ⟨mb, ns2 bl, bb⟩, mc, ns2 c1, c2⟩
    have env0 : Env0 P w K mg (hidT s.heap H) callerA [] s H :=
      ⟨rfl, md, fun b o e => of_hidT e, Nat.le_of_eq (hidT_size _ _), trivial, (fun b hb => by cases (show b ∈ ([] : List Addr) from hb)), hok, .of_eq gens⟩
    refine codeAny_mono ((F _ inK2 (ns2 gl)).goes callerA [] s H ⟨[.ref a], []⟩ [.ref a] [.ref a] _ _ ⟨hr, rfl⟩ env0 (bnd s (.ref a)) (.cons rfl .nil) (hsp H only seq)) fun r s2 hq => ?_
    match r, hq with
    | .error e, hq =>
      obtain ⟨_, _, _, _, _, _, _, _, _, _, _, _, z⟩ := hq
      exact z.elim
    | .ok .next, hq => exact hq.elim
    | .ok .brk, hq => exact hq.elim
    | .ok .cont, hq => exact hq.elim
    | .ok (.ret u), hq =>
      obtain ⟨v, H2, os, bare, un, hok2, rv, q⟩ := hq
      obtain rfl : v = .bl true := q
      obtain rfl : u = Value.bool true := rv
      refine ⟨rfl, OldK.of_keep fun b o e => ?_, os, bare⟩
      cases hb : H b with
      | none => exact un.keep b o e hb (fun z => by cases (show b ∈ ([] : List Addr) from z)) (fun z => by cases (show b ∈ ([] : List Addr) from z))
      | some y =>
        obtain z | ⟨ob, xs, z⟩ := only b
        · rw [hb] at z
          cases z
        · have e1 := (hok b _ z).1
          have e2 := (hok2 b _ (un.frzs b ob _ z)).1
          rw [e] at e1
          cases e1
          exact e2
  cases hk : K.lookup a with
  | some o =>
    have e := inK a o hk
    rw [la] at e
    cases e
    exact main (fun _ => none) (fun _ => .inl rfl) (.inr ⟨_, vs.toArray, _, hk, rfl, rfl, rfl, by rw [List.size_toArray, lens]; exact ln, by simpa using rels⟩) (fun b u z => by cases z) (fun b u z => by cases z) fun u z => by cases z
  | none =>
    let H1 : Hp := fun b => if b = a then some (.frz { cls := .type "list", data := .seq vs.toArray } (.lst (ns.map V.int))) else none
    have ha : H1 a = some (.frz { cls := .type "list", data := .seq vs.toArray } (.lst (ns.map V.int))) := if_pos rfl
    have hne : ∀ b, b ≠ a → H1 b = none := fun b hb => if_neg hb
    refine main H1 (fun b => ?_) (.inl (.inr ⟨_, ha⟩)) (fun b u z => ?_) (fun b u z => ?_) fun _ _ => hk
    · by_cases hb : b = a
      · subst hb
        exact .inr ⟨_, _, ha⟩
      · exact .inl (hne b hb)
    · by_cases hb : b = a
      · subst hb
        rw [ha] at z
        cases z
        exact ⟨la, by rw [List.length_map]; exact ln, vs, _, rels, la⟩
      · rw [hne b hb] at z
        cases z
    · by_cases hb : b = a
      · exact hb
      · rw [hne b hb] at z
        cases z

/-- the goal that a head by facts leaves -/
theorem walk_G {l : PySem.W.OpenLaw} {n k : Nat} {q : Program} {loose : List Str} {XP : (Str → Option Value) → Heap → Prop} {YP : World → Heap → Prop} {d : DefRec} {x : Str}
    (hn : l.most = some n) (hn2 : n ≤ sizeLine) (hdf : d.params.defaults = []) (hr : Room k callerA)
    (F : ∀ (w : World) (mg : Str → Option Value) (fa : Addr) (h : Heap), YP w h → h.Ns mainGlobals mg → mg d.name = some (.ref fa) →
      ∃ (K : PySem.W.Frag) (fd : FuncData) (sp : Sp), K.In h ∧ (∀ (s : Shared) (u : Value), BindsTo s fd ⟨[u], []⟩ [(x, u)]) ∧
        (∀ (H : Hp) (a : Addr) (ns : List Int), ns.length ≤ n → (∀ z ∈ ns, Builtin.Int.intBits z ≤ 1048576) → Only H → SqL K H a (ns.map V.int) → sp [.ref a] H (fun v _ => v = .bl true) fun _ _ _ => False) ∧
        ∀ base : Heap, K.In base → base.Ns mainGlobals mg → FnG l.prog w K mg base k fa fd [x] sp) :
    PySem.W.WalkO q loose XP YP l.row.toRowW d [] (fun f vs => PySem.call f vs) := by
  refine Att.attach_callB hn hdf fun w s₀ s₁ mg mb fa o pm cd doc a vs ns G Y ho hd hcd hmg hobj hints hlen bits gens => ?_
  obtain ⟨K, fd, sp, inK, hb, hsp, hF⟩ := F w mg fa _ Y G.T.g hmg
  exact law_runs inK G.T.g G.T.b G.T.builtins G.T.nolimit gens hobj hints (Nat.le_trans hlen hn2) hr hF hb fun H hO hS => hsp H a ns hlen bits hO hS

section
variable {P : Program} {w : World} {K : PySem.W.Frag} {mg : Str → Option Value} {base : Heap} {k : Nat} {x m q : Str} {st : Stmt} {f C : Addr} {ps : List Str} {sp : Sp}
theorem Cal.of (g : mg x = some (.ref f)) (F : ∃ fd, Fun K x q st f fd) (b : ∀ {fd}, Fun K x q st f fd → Binds K fd ps []) (h : ∀ {fd}, Fun K x q st f fd → FnG P w K mg base k f fd ps sp) : Cal P w K mg base k x sp :=
  let ⟨fd, z⟩ := F; ⟨f, fd, ps, h z, g, z.kp, b z⟩
theorem Met.of (c : Cls K C) (mt : Meth K C m f) (F : ∃ fd, Fun K x q st f fd) (b : ∀ {fd}, Fun K x q st f fd → Binds K fd ps []) (h : ∀ {fd}, Fun K x q st f fd → FnG P w K mg base k f fd ps sp) : Met P w K mg base k C m sp :=
  let ⟨fd, z⟩ := F; ⟨f, fd, ps, c, mt, h z, b z⟩
theorem Mak.of (M : Mk K C f) (g : mg m = some (.ref C)) (F : ∃ fd, Fun K x q st f fd) (b : ∀ {fd}, Fun K x q st f fd → Binds K fd ps []) (h : ∀ {fd}, Fun K x q st f fd → FnG P w K mg base k f fd ps sp) : Mak P w K mg base k m C sp :=
  let ⟨fd, z⟩ := F; ⟨f, fd, ps, M, h z, g, b z⟩
end
/-- a def without defaults as a Fun -/
theorem toFun {K : PySem.W.Frag} {x qual : Str} {st : Stmt} {f : Addr} {fd : FuncData} (F : FunD K x qual (defArgs st) (defBody st) (defScope st) [] [] f fd) : Fun K x qual st f fd := by
  obtain ⟨oc, od, dV, kV, doc, pm, an, cdv, ct, osl, rfl, lk, cd, dv, _⟩ := F.ex
  rcases dv with ⟨_, rfl⟩ | ⟨z, _⟩
  · exact ⟨⟨oc, od, kV, doc, pm, an, cdv, ct, osl, rfl, lk, cd⟩, F.kp⟩
  · exact absurd rfl z
end FG

/-! GK: the layer's rules, their readings told over a named written part (so that they can stand within a comprehension). -/
namespace FG
open PySem PySem.Spec L2
open PyProof.Rows hiding St
section
variable {X : Cx} {e o a b : Expr} {es : List Expr} {f name : Str} {pos apos cpos p p2 p3 : Pos} {ta te tb to : TE} {t : TA} {T id : String} {r : V → List V → Hp → VK → Prop}
theorem kfld (K : PySem.W.Frag) (he : PE X e ta) (hb : attributeBase e f X.env (eval e X.env) = eval e X.env := by rfl) (hK : X.K = K := by rfl) : PE X (.Attribute e f pos) (tFld K ta f) := by subst hK; exact pe_fld he hb
theorem kixL (K : PySem.W.Frag) (hK : X.K = K := by rfl) : IxR X (rIxL K) := by subst hK; exact ix_list
theorem kixT (K : PySem.W.Frag) (hK : X.K = K := by rfl) : IxR X (rIxT K) := by subst hK; exact ix_tup
theorem kslL (K : PySem.W.Frag) (hK : X.K = K := by rfl) : SlR X (rSlL K) := by subst hK; exact sl_list
theorem kslT (K : PySem.W.Frag) (hK : X.K = K := by rfl) : SlR X (rSlT K) := by subst hK; exact sl_tup
theorem kin (K : PySem.W.Frag) (hK : X.K = K := by rfl) : OpR X (compareOp .In) (rIn K false) := by subst hK; exact op_in_seq
theorem knotIn (K : PySem.W.Frag) (hK : X.K = K := by rfl) : OpR X (compareOp .NotIn) (rIn K true) := by subst hK; exact op_notIn_seq
theorem keqD (K : PySem.W.Frag) (hu : X.A.units + 64 < cLine) (hK : X.K = K := by rfl) : OpR X (compareOp .Eq) (rEqD K) := by subst hK; exact op_eqD hu
theorem kneD (K : PySem.W.Frag) (hu : X.A.units + 64 < cLine) (hK : X.K = K := by rfl) : OpR X (compareOp .NotEq) (rNeD K) := by subst hK; exact op_neD hu
theorem knotInD (K : PySem.W.Frag) (hu : X.A.units + 65 < cLine) (hK : X.K = K := by rfl) : OpR X (compareOp .NotIn) (rNotInD K) := by subst hK; exact op_notInD hu
theorem kcatT (K : PySem.W.Frag) (hK : X.K = K := by rfl) : OpR X (binaryOp .Add) (rCatT K) := by subst hK; exact op_catT
def rLenS (K : PySem.W.Frag) (xs : List V) (H : Hp) (Q : VK) : Prop := ∃ p ys, xs = [.ref p] ∧ (SqL K H p ys ∨ SqT K H p ys) ∧ Q (.int ys.length) H
theorem klen (K : PySem.W.Frag) (hK : X.K = K := by rfl) : CallR X (.builtin "len") (rLenS K) := by subst hK; exact call_len_seq
def rListOf (K : PySem.W.Frag) (xs : List V) (H : Hp) (Q : VK) : Prop := ∃ p ys, xs = [.ref p] ∧ (SqL K H p ys ∨ SqT K H p ys) ∧ ∀ l, H l = none → Q (.ref l) (upd H l (.lst ys))
theorem klist (K : PySem.W.Frag) (hK : X.K = K := by rfl) : CallR X (.type "list") (rListOf K) := by subst hK; exact call_list_of
def rTupOf (K : PySem.W.Frag) (xs : List V) (H : Hp) (Q : VK) : Prop := ∃ p ys, xs = [.ref p] ∧ ((SqL K H p ys ∧ ∀ l, H l = none → Q (.ref l) (upd H l (.tup ys))) ∨ (SqT K H p ys ∧ Q (.ref p) H))
theorem ktuple (K : PySem.W.Frag) (hK : X.K = K := by rfl) : CallR X (.type "tuple") (rTupOf K) := by subst hK; exact call_tuple_of
theorem ksum (K : PySem.W.Frag) (hc : X.calm = true := by rfl) (hK : X.K = K := by rfl) : CallR X (.builtin "sum") (rSum K) := by subst hK; exact cr_sum hc
theorem kmax (K : PySem.W.Frag) (hc : X.calm = true := by rfl) (hK : X.K = K := by rfl) : CallR X (.builtin "max") (rMax K) := by subst hK; exact cr_max hc
theorem kmin (K : PySem.W.Frag) (hc : X.calm = true := by rfl) (hK : X.K = K := by rfl) : CallR X (.builtin "min") (rMin K) := by subst hK; exact cr_min hc
theorem kany (K : PySem.W.Frag) (hc : X.calm = true := by rfl) (hK : X.K = K := by rfl) : CallR X (.builtin "any") (rAny K) := by subst hK; exact cr_any hc
theorem kall (K : PySem.W.Frag) (hc : X.calm = true := by rfl) (hK : X.K = K := by rfl) : CallR X (.builtin "all") (rAll K) := by subst hK; exact cr_all hc
theorem kisi (K : PySem.W.Frag) (hK : X.K = K := by rfl) : CallR X (.builtin "isinstance") (rIsi K) := by subst hK; exact call_isi
theorem kbm0 (K : PySem.W.Frag) (pa : PlainAttrs T) (slot : Slot T name id) (hty : typeOf (.builtin id) = pure (.type "method_descriptor")) (hm : MtR X id r) (ho : PE X o to)
    (hbase : attributeBase o name X.env (eval o X.env) = eval o X.env := by rfl) (hline : (apos.endLine == cpos.line) = true := by rfl) (hK : X.K = K := by rfl) : PE X (.Call (.Attribute o name apos) [] [] cpos) (tBM0 K T r to) := by
  subst hK; exact pe_bm0 pa slot hty hm ho hbase hline
theorem kbm (K : PySem.W.Frag) (pa : PlainAttrs T) (slot : Slot T name id) (hty : typeOf (.builtin id) = pure (.type "method_descriptor")) (hm : MtR X id r) (ho : PE X o to) (ha : PA X (e :: es) t)
    (hbase : attributeBase o name X.env (eval o X.env) = eval o X.env := by rfl)
    (hfew : ((backTo cpos (starEach (e :: es) X.env)).all (fun x => !x.1) && (backToKw cpos (keywordEach [] X.env)).all (fun x => x.1.isSome) && decide ((e :: es).length + ([] : List Keyword).length + (if ([] : List Keyword).isEmpty then 0 else 1) < 30)) = true := by rfl)
    (hline : (apos.endLine == cpos.line) = true := by rfl) (hs : starEach (e :: es) X.env = (false, eval e X.env) :: starEach es X.env := by rfl) (hpl : (backTo cpos (starEach es X.env)).any (·.1) = false := by rfl) (hK : X.K = K := by rfl) :
    PE X (.Call (.Attribute o name apos) (e :: es) [] cpos) (tBM K T r to t) := by
  subst hK; exact pe_bm pa slot hty hm ho ha hbase hfew hline hs hpl
theorem krevL (K : PySem.W.Frag) {k : Nat} {p1 : Pos} (he : PE X e te) (hK : X.K = K := by rfl) : PE X (.Subscript e (.Slice none none (some (.UnaryOp .USub (.Constant (.int 1) k p1) p2)) p3) pos) (tRevL K te) := by subst hK; exact pe_revL he
theorem kiL (K : PySem.W.Frag) {tg : Expr} (he : PE X e te) (hK : X.K = K := by rfl) : PI X tg e (iList K te) := by subst hK; exact pi_list he
theorem kiT (K : PySem.W.Frag) {tg : Expr} (he : PE X e te) (hK : X.K = K := by rfl) : PI X tg e (iTup K te) := by subst hK; exact pi_tup he
theorem kiRev (K : PySem.W.Frag) {tg : Expr} (hg : Gl X "reversed") (hm : X.mg "reversed" = none) (ha : PA X [e] t) (hs : starEach [e] X.env = [(false, eval e X.env)] := by rfl) (hK : X.K = K := by rfl) :
    PI X tg (.Call (.Name "reversed" p) [e] [] pos) (iRev K t) := by subst hK; exact pi_reversed hg hm ha hs
theorem kgT (K : PySem.W.Frag) {k n : Nat} {tgs : TGs} (hc : X.calm = true) (h : PGs X es tgs) (hn : (assignEach es X.env).length = n := by rfl) (hst : (assignEach es X.env).findIdx? (·.1) = none := by rfl) (hK : X.K = K := by rfl) :
    PG X (.Tuple es k pos) (gTup K n tgs) := by subst hK; exact pg_tup hc h hn hst
def tTru (K : PySem.W.Frag) (te : TE) : TT := fun σ H Q => te σ H fun x H1 => ∃ k, TruV K x H1 k ∧ Q k H1
theorem ktru (K : PySem.W.Frag) (ha : PE X a ta) (he : ∀ whole, isTrue a X.env whole = (do let v ← whole; standAt a.pos; holding [v] (truthy v)) := by intro _; rfl) (hK : X.K = K := by rfl) : PT X a (tTru K ta) := by subst hK; exact pt_truth ha he
theorem krepr (K : PySem.W.Frag) {k : Nat} (hr : RG k X.A) (hm : X.mg "repr" = none) (he : PE X e te) (hg : Gl X "repr" := by rfl)
    (hs : starEach (e :: []) X.env = (false, eval e X.env) :: starEach [] X.env := by rfl) (hpl : (backTo pos (starEach [] X.env)).any (·.1) = false := by rfl) (hK : X.K = K := by rfl) :
    PE X (.Call (.Name "repr" p) [e] [] pos) (tCB (rRepr K) (tCons te tNil)) := by subst hK; exact pe_callB (call_repr hr) hg hm boot_repr (pa_cons he pa_nil hs) (by decide) (by decide) hs hpl
theorem ksFld (K : PySem.W.Frag) {p' : Pos} {v : Expr} {tv : TE} (ha : PE X o to) (hv : PE X v tv) (hs : swapsWith v (some (.Attribute o f p')) pos.line X.env = pure false := by rfl) (hK : X.K = K := by rfl) : PS X (.Assign [.Attribute o f p'] v pos) (sFld K to tv f) := by subst hK; exact ps_fld ha hv hs
/-- xs == [] -/
def rEqE (K : PySem.W.Frag) : R2 := fun x y H Q => ∃ a b xs, x = .ref a ∧ y = .ref b ∧ SqL K H a xs ∧ SqL K H b [] ∧ Q (.bl xs.isEmpty) H
theorem keqE (K : PySem.W.Frag) (hu : X.A.units + 64 < cLine) (hK : X.K = K := by rfl) : OpR X (compareOp .Eq) (rEqE K) := by
  subst hK
  intro pins s σ H x y v u Q I rx ry h
  obtain ⟨a, b, xs, rfl, rfl, ha, hb, q⟩ := h
  cases (show v = Value.ref a from rx)
  cases (show u = Value.ref b from ry)
  obtain ⟨us, r1, p1, _⟩ := I.list ha
  obtain ⟨ws, r2, p2, _⟩ := I.list hb
  cases r2
  cases r1 with
  | nil => exact SeqAt.RcAt.lists (e := fun _ => true) p1.isList p2.isList rfl (by omega) (fun j h1 _ => absurd h1 (Nat.not_lt_zero j)) _ _ _ _ ⟨.bl true, H, I, rfl, q⟩
  | cons c d => exact SeqAt.RcAt.lists_lengths p1.isList p2.isList (by simp) (by omega) _ _ _ _ ⟨.bl false, H, I, rfl, q⟩
end
end FG

/-! GRepr: the texts of small data fit. -/
namespace FG
open PySem PySem.Spec L2
open PyProof.Rows hiding St
mutual
/-- numbers of at most 38 figures, signs below 16 ^ 8 -/
def okD : PyData → Bool
  | .none | .bool _ => true
  | .int i => decide (i.natAbs < 10 ^ 38)
  | .str x => x.cps.toList.all fun c => c < 16 ^ 8
  | .list xs | .tuple xs => okDs xs
  | .dict kvs => kvs.isEmpty
def okDs : List PyData → Bool
  | [] => true
  | x :: xs => okD x && okDs xs
end
theorem int_short {i : Int} (h : i.natAbs < 10 ^ 38) : (PyData.shown (.int i)).length ≤ 40 := by
  have h1 := int_text_length_le10 (a := i) (k := 38) (by decide) h
  have h2 : (PyData.shown (.int i)).length = (toString i).length := by
    show (Str.ofString (toString i)).length = _
    rw [PySem.ofString_length]
  omega
theorem log_small {i : Int} (h : i.natAbs < 10 ^ 38) : i.natAbs.log2 < 1920 := log2_small (Nat.lt_trans h (by decide +kernel))
mutual
theorem okD_leaves : ∀ d : PyData, okD d = true → d.leavesShort 40 = true ∧ d.showable = true
  | .none, _ => ⟨by simp only [PyData.leavesShort], by simp only [PyData.showable]⟩
  | .bool _, _ => ⟨by simp only [PyData.leavesShort], by simp only [PyData.showable]⟩
  | .int i, h => by
    have h2 : i.natAbs < 10 ^ 38 := by simpa only [okD, decide_eq_true_eq] using h
    exact ⟨by simp only [PyData.leavesShort, decide_eq_true_eq]; exact int_short h2, by simp only [PyData.showable, decide_eq_true_eq]; exact log_small h2⟩
  | .str x, h => ⟨by simpa only [okD, PyData.leavesShort] using h, by simp only [PyData.showable]⟩
  | .list xs, h => by
    have z := okDs_leaves xs (by simpa only [okD] using h)
    exact ⟨by simp only [PyData.leavesShort]; exact z.1, by simp only [PyData.showable]; exact z.2⟩
  | .tuple xs, h => by
    have z := okDs_leaves xs (by simpa only [okD] using h)
    exact ⟨by simp only [PyData.leavesShort]; exact z.1, by simp only [PyData.showable]; exact z.2⟩
  | .dict [], _ => ⟨by simp only [PyData.leavesShort, PyData.leavesShortKv], by simp only [PyData.showable, PyData.showableKv]⟩
  | .dict (_ :: _), h => by simp [okD] at h
theorem okDs_leaves : ∀ ds : List PyData, okDs ds = true → PyData.leavesShortAll 40 ds = true ∧ PyData.showableAll ds = true
  | [], _ => ⟨by simp only [PyData.leavesShortAll], by simp only [PyData.showableAll]⟩
  | d :: ds, h => by
    have h2 : okD d = true ∧ okDs ds = true := by simpa only [okDs, Bool.and_eq_true] using h
    have a := okD_leaves d h2.1
    have b := okDs_leaves ds h2.2
    exact ⟨by simp only [PyData.leavesShortAll, a.1, b.1, Bool.and_self], by simp only [PyData.showableAll, a.2, b.2, Bool.and_self]⟩
end
theorem shw_at {K : PySem.W.Frag} {v : V} {d : PyData} {H : Hp} (hd : Dp K H v d) (ok : okD d = true) (hb : d.bulk ≤ 300000) (hdep : d.depth ≤ 60) : Shw K H v d := by
  obtain ⟨h1, h2⟩ := okD_leaves d ok
  refine ⟨.inl hd, h2, ?_, hdep⟩
  have := PyData.shown_le_bulk 40 (by decide) d h1
  rw [sizeLine_eq]
  omega
theorem shw_atE {K : PySem.W.Frag} {v : V} {d : PyData} {H : Hp} (hd : DpE H v d) (ok : okD d = true) (hb : d.bulk ≤ 300000) (hdep : d.depth ≤ 60) : Shw K H v d := by
  obtain ⟨h1, h2⟩ := okD_leaves d ok
  refine ⟨.inr hd, h2, ?_, hdep⟩
  have := PyData.shown_le_bulk 40 (by decide) d h1
  rw [sizeLine_eq]
  omega
theorem okDs_of {ds : List PyData} (h : ∀ d ∈ ds, okD d = true) : okDs ds = true := by
  induction ds with
  | nil => simp only [okDs]
  | cons d ds ih =>
    simp only [okDs, Bool.and_eq_true]
    exact ⟨h d (by simp), ih fun x hx => h x (by simp [hx])⟩
theorem bulk_flat {ds : List PyData} (h : ∀ d ∈ ds, d.bulk = 0) : PyData.bulkAll ds = ds.length := by
  induction ds with
  | nil => simp only [PyData.bulkAll, List.length_nil]
  | cons d ds ih =>
    simp only [PyData.bulkAll, List.length_cons]
    rw [h d (by simp), ih fun x hx => h x (by simp [hx])]; omega
theorem depth_flat {ds : List PyData} (h : ∀ d ∈ ds, d.depth = 0) : PyData.depthAll ds = 0 := by
  induction ds with
  | nil => simp only [PyData.depthAll]
  | cons d ds ih =>
    simp only [PyData.depthAll]
    rw [h d (by simp), ih fun x hx => h x (by simp [hx])]; rfl
theorem shw_int {K : PySem.W.Frag} {i : Int} {H : Hp} (h : i.natAbs < 10 ^ 38) : Shw K H (.int i) (.int i) :=
  shw_at (.int i) (by simp only [okD, decide_eq_true_eq]; exact h) (by simp only [PyData.bulk]; omega) (by simp only [PyData.depth]; omega)
theorem shw_small {K : PySem.W.Frag} {i : Int} {H : Hp} (h : i.natAbs < 1000000000000) : Shw K H (.int i) (.int i) := shw_int (Nat.lt_trans h (by decide))
theorem shw_bool {K : PySem.W.Frag} {b : Bool} {H : Hp} : Shw K H (.bl b) (.bool b) :=
  shw_at (.bl b) (by simp only [okD]) (by simp only [PyData.bulk]; omega) (by simp only [PyData.depth]; omega)
theorem shw_none {K : PySem.W.Frag} {H : Hp} : Shw K H .non .none :=
  shw_at .non (by simp only [okD]) (by simp only [PyData.bulk]; omega) (by simp only [PyData.depth]; omega)
end FG

/-! GExc: own exceptions with fields: what the written part says, made and raised, caught by clauses with and without a name, asked in a suite. Own layer over HandS. -/
namespace FG
open PySem PySem.Spec L2
open PyProof.Rows hiding St

/-! ### facts -/
theorem ba2 {a b : Bool} (h : (a && b) = true) : a = true ∧ b = true := Bool.and_eq_true_iff.mp h
def oexB (K : PySem.W.Frag) (C : Addr) : Bool := (match K.lookup C with
  | some ⟨.type ty, _, .cls cd, sl⟩ => (match cd.mro, sl.toList with
    | .ref C' :: bm, [_, _, _, _, some (.builtin n), _] => decide (ty = "type") && (decide (C' = C) && (HandSPX.refsVE bm && (cd.hasDict && (!cd.hasDel && decide (n = "ValueError.__new__")))))
    | _, _ => false)
  | _ => false) && (decide (PySem.W.findIn K (.ref C) "__setattr__" = some (some (.builtin "object.__setattr__"))) && (decide (PySem.W.subIn K (.ref C) (.type "BaseException") = some true) && (decide (PySem.W.typeIn K (.ref C) = some (.type "type")) && PySem.W.keepIn K (.ref C))))
theorem oexB_ok {K : PySem.W.Frag} {C : Addr} (h : oexB K C = true) : OexC K C := by
  unfold oexB at h
  obtain ⟨h1, h⟩ := ba2 h
  obtain ⟨h2, h⟩ := ba2 h
  obtain ⟨h3, h⟩ := ba2 h
  obtain ⟨h4, h5⟩ := ba2 h
  refine ⟨?_, of_decide_eq_true h2, of_decide_eq_true h3, of_decide_eq_true h4, h5⟩
  split at h1
  · rename_i ty dd cd sl ho
    split at h1
    · rename_i C' bm k0 k1 k2 k3 n k5 hm hs
      simp only [Bool.and_eq_true, decide_eq_true_eq, Bool.not_eq_true'] at h1
      obtain ⟨rfl, rfl, hr, hd, hdel, rfl⟩ := h1
      obtain ⟨nm, bs, mro, ns, qn, hd', sn, sub, ab, col, del⟩ := cd
      dsimp only at hm hd hdel
      subst hm hd hdel
      have hsl : sl = #[k0, k1, k2, k3, some (.builtin "ValueError.__new__"), k5] := by
        obtain ⟨l⟩ := sl
        simp only at hs
        rw [hs]
      subst hsl
      exact ⟨nm, qn, ns, bs, bm, sn, sub, ab, col, dd, k0, k1, k2, k3, k5, ho, hr⟩
    · cases h1
  · cases h1
/-- what isinstance and an instance's fields ask of the class -/
def excB (K : PySem.W.Frag) (D : Addr) : Bool :=
  decide (PySem.W.findIn K (.ref D) "__getattribute__" = some (some (.builtin "BaseException.__getattribute__"))) && (decide (PySem.W.findIn K (.ref D) "__getattr__" = some none) && (decide (PySem.W.subIn K (.ref D) (.type "BaseException") = some true) &&
  (PySem.W.hasDictIn K D && (decide (PySem.W.findIn K (.ref D) "__class__" = some (some (.builtin "object.__class__"))) && (decide (PySem.W.specialIn K (.builtin "object.__class__") "__get__" = some (some (.builtin "getset_descriptor.__get__"))) &&
  (decide (PySem.W.takesIn K (.builtin "object.__class__") = some true) && decide (PySem.W.mroIn K D (.type "object") = some true)))))))
theorem excB_ok {K : PySem.W.Frag} {D : Addr} (h : excB K D = true) : ExcC K D ∧ XfC K D := by
  unfold excB at h
  obtain ⟨h1, h⟩ := ba2 h
  obtain ⟨h2, h⟩ := ba2 h
  obtain ⟨h3, h⟩ := ba2 h
  obtain ⟨h4, h⟩ := ba2 h
  obtain ⟨h5, h⟩ := ba2 h
  obtain ⟨h6, h⟩ := ba2 h
  obtain ⟨h7, h8⟩ := ba2 h
  exact ⟨⟨of_decide_eq_true h1, of_decide_eq_true h2, of_decide_eq_true h3, h4, of_decide_eq_true h5, of_decide_eq_true h6, of_decide_eq_true h7, of_decide_eq_true h8⟩, ⟨of_decide_eq_true h1, of_decide_eq_true h2, of_decide_eq_true h3, h4⟩⟩
/-- an own exception class with these fields -/
structure XC (K : PySem.W.Frag) (C : Addr) (fs : List Str) : Prop where
  o : OexC K C
  e : ExcC K C
  x : XfC K C
  no : ∀ f ∈ fs, PySem.W.findIn K (.ref C) f = some none
/-- its own __init__ -/
structure XI (K : PySem.W.Frag) (C f : Addr) : Prop where
  i : PySem.W.findIn K (.ref C) "__init__" = some (some (.ref f))
  t : PySem.W.typeIn K (.ref f) = some (.type "function")
/-- an own exception class without __init__ -/
structure X0 (K : PySem.W.Frag) (C : Addr) : Prop where
  q : PySem.W.excIn K C He.veBase "ValueError.__new__" = true
  k : PySem.W.keepIn K (.ref C) = true
  s : PySem.W.subIn K (.ref C) (.type "BaseException") = some true
  t : PySem.W.typeIn K (.ref C) = some (.type "type")
  e : ExcC K C
/-- what is told of the written part beyond the kit's facts -/
inductive Xa where
  | oex (c : Str) (fs : List Str)
  | zer (c : Str)
  | exm (c d : Str) (b : Bool)
  | isi (c d : Str) (b : Bool)
  | prop (f : PySem.W.Frag → Bool)
def Xa.ok (K : PySem.W.Frag) : Xa → Bool
  | .oex c fs => oexB K (He.ga K c) && (excB K (He.ga K c) && (fs.all (fun f => decide (PySem.W.findIn K (.ref (He.ga K c)) f = some none)) && (decide (PySem.W.findIn K (.ref (He.ga K c)) "__init__" = some (some (.ref (He.ma K (He.ga K c) "__init__")))) &&
      decide (PySem.W.typeIn K (.ref (He.ma K (He.ga K c) "__init__")) = some (.type "function")))))
  | .zer c => PySem.W.excIn K (He.ga K c) He.veBase "ValueError.__new__" && (PySem.W.keepIn K (.ref (He.ga K c)) && (decide (PySem.W.subIn K (.ref (He.ga K c)) (.type "BaseException") = some true) && (decide (PySem.W.typeIn K (.ref (He.ga K c)) = some (.type "type")) && excB K (He.ga K c))))
  | .exm c d b => decide (PySem.W.exmOne K (.ref (He.ga K c)) (.ref (He.ga K d)) = some b)
  | .isi c d b => decide (PySem.W.kitOne K (.ref (He.ga K c)) (.ref (He.ga K d)) = some b)
  | .prop f => f K
theorem oex_ok {K : PySem.W.Frag} {c : Str} {fs : List Str} (h : (Xa.oex c fs).ok K = true) : XC K (He.ga K c) fs ∧ XI K (He.ga K c) (He.ma K (He.ga K c) "__init__") := by
  obtain ⟨h1, h⟩ := ba2 h
  obtain ⟨h2, h⟩ := ba2 h
  obtain ⟨h3, h⟩ := ba2 h
  obtain ⟨h4, h5⟩ := ba2 h
  obtain ⟨e, x⟩ := excB_ok h2
  exact ⟨⟨oexB_ok h1, e, x, fun f hf => of_decide_eq_true (List.all_eq_true.mp h3 f hf)⟩, ⟨of_decide_eq_true h4, of_decide_eq_true h5⟩⟩
theorem zer_ok {K : PySem.W.Frag} {c : Str} (h : (Xa.zer c).ok K = true) : X0 K (He.ga K c) := by
  obtain ⟨h1, h⟩ := ba2 h
  obtain ⟨h2, h⟩ := ba2 h
  obtain ⟨h3, h⟩ := ba2 h
  obtain ⟨h4, h5⟩ := ba2 h
  exact ⟨h1, h2, of_decide_eq_true h3, of_decide_eq_true h4, (excB_ok h5).1⟩
theorem exm_ok {K : PySem.W.Frag} {c d : Str} {b : Bool} (h : (Xa.exm c d b).ok K = true) : PySem.W.exmOne K (.ref (He.ga K c)) (.ref (He.ga K d)) = some b := of_decide_eq_true h
theorem isi_ok {K : PySem.W.Frag} {c d : Str} {b : Bool} (h : (Xa.isi c d b).ok K = true) : PySem.W.kitOne K (.ref (He.ga K c)) (.ref (He.ga K d)) = some b := of_decide_eq_true h
theorem xa_at {K : PySem.W.Frag} {l : List Xa} (h : (l.all fun x => x.ok K) = true) (i : Nat) {x : Xa} (hx : l[i]? = some x) : x.ok K = true := List.all_eq_true.mp h x (List.mem_of_getElem? hx)

/-! ### made and raised -/
/-- what such an __init__ does: self.f1 = y1; self.f2 = y2; .. -/
def spIni (K : PySem.W.Frag) (fs : List Str) : Sp := fun vs H Q _ => ∃ (a C : Addr) (ys : List V), vs = .ref a :: ys ∧ ys.length = fs.length ∧ XC K C fs ∧ H a = some (exo a C none) ∧
  ∀ d H', H d = none → d ≠ a → H' a = some (exo a C (some d)) → H' d = some (exd d (fs.zip ys).reverse) → (∀ b, b ≠ a → b ≠ d → H' b = H b) → Q .non H'
/-- the class x, at C, may be raised with these fields -/
structure Rai (P : Program) (w : World) (K : PySem.W.Frag) (mg : Str → Option Value) (base : Heap) (x : Str) (C : Addr) (fs : List Str) : Prop where
  ex : ∃ (f : Addr) (fd : FuncData) (ps : List Str), XC K C fs ∧ XI K C f ∧ FnG P w K mg base 1 f fd ps (spIni K fs) ∧ Binds K fd ps [] ∧ mg x = some (.ref C)
theorem Rai.of {P : Program} {w : World} {K : PySem.W.Frag} {mg : Str → Option Value} {base : Heap} {x m q : Str} {C f : Addr} {fs ps : List Str} {st : Stmt} (xc : XC K C fs ∧ XI K C f) (g : mg x = some (.ref C)) (F : ∃ fd, Fun K m q st f fd)
    (b : ∀ {fd}, Fun K m q st f fd → Binds K fd ps []) (h : ∀ {fd}, Fun K m q st f fd → FnG P w K mg base 1 f fd ps (spIni K fs)) : Rai P w K mg base x C fs :=
  let ⟨fd, z⟩ := F; ⟨f, fd, ps, xc.1, xc.2, h z, b z, g⟩
section
variable {X : Cx} {x : Str} {C : Addr} {fs : List Str} {W : WX} {e : Expr} {es : List Expr} {ta : TA} {p pos pos2 : Pos}
theorem pmk_G (R : Rai X.prog X.w X.K X.mg X.base x C fs) (hr : RG 2 X.A) (tk : Takes X W) (ha : PA X (e :: es) ta) (hg : Gl X x := by rfl)
    (hdb : (x == ("__debug__" : Str)) = false := by decide) (he : starEach (e :: es) X.env = (false, eval e X.env) :: starEach es X.env := by rfl) (hpl : (backTo pos (starEach es X.env)).any (·.1) = false := by rfl) :
    PMk X (.Call (.Name x p) (e :: es) [] pos) (fun σ H Q => ta σ H fun vs H1 => vs.length = fs.length ∧ vs.length ≤ 10 ∧ ∀ d, H1 d = none → Q (.ref C) (some d) (upd H1 d (.xd (fs.zip vs).reverse))) := by
  intro pins s σ H Q I h
  obtain ⟨fI, fd, ps, xc, xi, F1, hb, hm⟩ := R.ex
  obtain ⟨nm, q, N, bs, bm, sn, sub, ab, col, dd, k0, k1, k2, k3, k5, hC, hbm⟩ := xc.o.cls
  refine wpAny_Call_Name_kw (ld_glob I hg hm ?_ hdb)
  refine PySem.W.callWith_K (h₀ := X.base) I.ok.mod.kin xc.o.kC (thn (ha.run pos pins s σ H _ I h) fun us s1 ⟨vs, H1, I1, r1, hl1, hl2, q1⟩ => ⟨I1.kIn, ?_⟩) he hpl
  show wpAny _ _ (call (.ref C) us) _ _ _
  obtain ⟨hp, g, dr, tk', os⟩ := s1
  have hsz : hp.objs.size ≤ hp.objs.size + 1 := Nat.le_succ _
  have hn : H1 (hp.objs.size + 1) = none := I1.hok.fresh hsz
  have hq : spIni X.K fs (.ref (hp.objs.size + 1) :: vs) (upd H1 (hp.objs.size + 1) (exo (hp.objs.size + 1) C none))
      (fun v H2 => v = .non ∧ ∃ (d : Addr) (fs' : List (Str × V)), H2 (hp.objs.size + 1) = some (exo (hp.objs.size + 1) C (some d)) ∧ H2 d = some (exd d fs') ∧ H1 d = none ∧ Q (.ref C) (some d) (upd (del H2 (hp.objs.size + 1)) d (.xd fs'))) (fun _ _ _ => False) := by
    refine ⟨_, C, vs, rfl, hl1, xc, upd_same, fun d H' hd hda ea ed oth => ⟨rfl, d, _, ea, ed, (upd_ne hda).symm.trans hd, ?_⟩⟩
    have hd1 : H1 d = none := (upd_ne hda).symm.trans hd
    have eH : upd (del H' (hp.objs.size + 1)) d (.xd (fs.zip vs).reverse) = upd H1 d (.xd (fs.zip vs).reverse) := by
      funext b
      by_cases hbd : b = d
      · rw [hbd, upd_same, upd_same]
      · rw [upd_ne hbd, upd_ne hbd]
        by_cases hba : b = hp.objs.size + 1
        · rw [hba, del_same, hn]
        · rw [del_ne hba, oth b hba hbd, upd_ne hba]
    rw [eH]
    exact q1 d hd1
  have kk : ∀ b o, hp.get? b = some o → ((hp.push (PySem.W.kdv_tup us)).push (PySem.HandSPX.excO C hp.objs.size)).get? b = some o := fun b o e => Heap.get?_push_of_some _ (Heap.get?_push_of_some _ e)
  have hget : ((hp.push (PySem.W.kdv_tup us)).push (PySem.HandSPX.excO C hp.objs.size)).get? (hp.objs.size + 1) = some (PySem.HandSPX.excO C hp.objs.size) := by heap_get
  have I2 : Inv X pins σ (upd H1 (hp.objs.size + 1) (exo (hp.objs.size + 1) C none)) ⟨(hp.push (PySem.W.kdv_tup us)).push (PySem.HandSPX.excO C hp.objs.size), g, dr, tk', os⟩ :=
    I1.laid (t' := tk') (a := hp.objs.size + 1) (o := exo (hp.objs.size + 1) C none) (h' := (hp.push (PySem.W.kdv_tup us)).push (PySem.HandSPX.excO C hp.objs.size)) kk hsz (exo_ok hget)
  have r2 : Vals (V.ref (hp.objs.size + 1) :: vs) (Value.ref (hp.objs.size + 1) :: us) := .cons rfl r1
  have hl : (Value.ref (hp.objs.size + 1) :: us).length = ps.length := by
    have e := r2.length
    rw [F1.nargs _ _ _ _ hq] at e
    exact e.symm
  have hus : us.length ≤ sizeLine := by
    rw [← Paired.length r1, sizeLine_eq]
    omega
  have b := hb _ (Value.ref (hp.objs.size + 1) :: us) I2.kIn (by simpa using hl)
  rw [List.append_nil] at b
  refine wpAny_call (PySem.HandSPX.call_own F.excBase_ValueError (fun Y => PySem.HandSPX.refsVE_contains Y bm hbm) (I1.kIn _ _ hC) (PySem.W.looks_findIn I1.kIn xi.i) (fun self => PySem.W.bind_fn I1.kIn self xi.t) hus
    (codeAny_mono (F1.goes _ X.stack _ _ ⟨Value.ref (hp.objs.size + 1) :: us, []⟩ (Value.ref (hp.objs.size + 1) :: us) _ _ _ ⟨hr.r.make C us [], make_guards.trans hr.g⟩ (I2.env0.make C us []) b r2 hq) fun r s' hq' => ?_))
  cases r with
  | error er => exact passes_call tk (fun _ _ _ _ z => False.elim z) pins σ _ _ er s' I2 hq'
  | ok fl =>
    cases fl with
    | ret u =>
      obtain ⟨v, H2, os2, bare2, un2, hok2, rv, ev, d, fs', ea, ed, hd1, q2⟩ := hq'
      subst ev
      obtain ⟨h2, g2, d2, t2, os'⟩ := s'
      exact ⟨rv, mk_end (raises_own xc.o.exC xc.o.tyC) I1 hsz kk un2 hok2 os2 bare2 ea ed hd1 q2⟩
    | next => exact False.elim hq'
    | brk => exact False.elim hq'
    | cont => exact False.elim hq'
/-- raise C(e, ..) -/
def tRais (C : Addr) (fs : List Str) (W : WX) (ta : TA) : TS := fun _ σ H => ta σ H fun vs H1 => vs.length = fs.length ∧ vs.length ≤ 10 ∧ ∀ d, H1 d = none → W (.ref C) (some d) σ (upd H1 d (.xd (fs.zip vs).reverse))
theorem ps_rais (R : Rai X.prog X.w X.K X.mg X.base x C fs) (hr : RG 2 X.A) (tk : Takes X W) (ha : PA X (e :: es) ta) (hc : X.calm = true := by rfl) (hg : Gl X x := by rfl)
    (hdb : (x == ("__debug__" : Str)) = false := by decide) (he : starEach (e :: es) X.env = (false, eval e X.env) :: starEach es X.env := by rfl) (hpl : (backTo pos (starEach es X.env)).any (·.1) = false := by rfl) :
    PS X (.Raise (some (.Call (.Name x p) (e :: es) [] pos)) none pos2) (tRais C fs W ta) := ps_raise hc tk (pmk_G R hr tk ha hg hdb he hpl)
/-- C(), without __init__ -/
theorem pmk_0 (q : X0 X.K C) (gC : X.mg x = some (.ref C)) (hg : Gl X x) (hdb : (x == ("__debug__" : Str)) = false := by decide) : PMk X (.Call (.Name x p) [] [] pos) (fun _ H Q => Q (.ref C) none H) := by
  intro pins s σ H Q I h
  refine wpAny_Call_Name_kw (ld_glob I hg gC ?_ hdb)
  refine PySem.W.callWith_K0 I.kIn q.k ?_
  show wpAny _ _ (call (.ref C) []) _ _ _
  obtain ⟨bm, N, nm, qn, bs, hdct, sn, sub, ab, col, dd, k0, k1, k2, k3, k5, mN, hC, hN, hni, T⟩ := exc_obj I.kIn q.q
  refine wpAny_call_exc_subT F.excBase_ValueError T hC hN hni (fun h' e hm => ?_) (by show 0 ≤ sizeLine; omega)
  exact mk_of I hm (raises_own q.s q.t) h (I.hok.gone hm.new)
def tRais0 (C : Addr) (W : WX) : TS := fun _ σ H => W (.ref C) none σ H
theorem ps_rais0 (q : X0 X.K C) (gC : X.mg x = some (.ref C)) (tk : Takes X W) (hc : X.calm = true := by rfl) (hg : Gl X x := by rfl) (hdb : (x == ("__debug__" : Str)) = false := by decide) :
    PS X (.Raise (some (.Call (.Name x p) [] [] pos)) none pos2) (tRais0 C W) := ps_raise hc tk (pmk_0 q gC hg hdb)
end

/-! ### caught: clauses with and without a name -/
abbrev Hd : Type := Value × Option Nat × (Addr → Value → Option Addr → TS)
/-- the slots behind a suite: the name is gone -/
def Ends.off (D : Ends) (i : Nat) : Ends := { nx := fun σ' H' => D.nx (σ'.set i none) H', rt := D.rt, bk := fun σ' H' => D.bk (σ'.set i none) H', ct := fun σ' H' => D.ct (σ'.set i none) H' }
def wMix (K : PySem.W.Frag) (Wout : WX) (D : Ends) : List Hd → WX
  | [] => Wout
  | (c, none, ts) :: r => fun cls d σ H => ∃ b, PySem.W.exmOne K cls c = some b ∧ if b = true then (∀ a, H a = none → ts a cls d D σ H) else wMix K Wout D r cls d σ H
  | (c, some i, ts) :: r => fun cls d σ H => ∃ b, PySem.W.exmOne K cls c = some b ∧ if b = true then (∀ a, H a = none → ts a cls d (Ends.off D i) (σ.set i (some (.ref a))) H) else wMix K Wout D r cls d σ H
inductive MixOk (X : Cx) : List ExceptHandler → List Hd → Prop
  | nil : MixOk X [] []
  | bare {x : Str} {c : Value} {ts : Addr → Value → Option Addr → TS} {b₀ : Stmt} {suite : List Stmt} {np pos' : Pos} {hds : List ExceptHandler} {l : List Hd} (hc : Names X x c)
      (hsu : ∀ (a : Addr) (oe : Obj) (cls : Value) (d : Option Addr) (pn : List (Addr × Obj)), Zc cls d oe → (∃ vs, oe.data = .fields vs) → PSs (X.suite a ((a, oe) :: pn)) (b₀ :: suite) (ts a cls d)) (r : MixOk X hds l) :
      MixOk X (.ExceptHandler (some (.Name x np)) none (b₀ :: suite) pos' :: hds) ((c, none, ts) :: l)
  | as {x n : Str} {c : Value} {i : Nat} {ts : Addr → Value → Option Addr → TS} {b₀ : Stmt} {suite : List Stmt} {np pos' : Pos} {hds : List ExceptHandler} {l : List Hd} (hc : Names X x c) (hi : X.N[i]? = some n) (hln : X.env.kindOf n = some .local)
      (hsu : ∀ (a : Addr) (oe : Obj) (cls : Value) (d : Option Addr) (pn : List (Addr × Obj)), Zc cls d oe → (∃ vs, oe.data = .fields vs) → PSs (X.suite a ((a, oe) :: pn)) (b₀ :: suite) (ts a cls d)) (r : MixOk X hds l) :
      MixOk X (.ExceptHandler (some (.Name x np)) (some n) (b₀ :: suite) pos' :: hds) ((c, some i, ts) :: l)
section
variable {X : Cx} {body : List Stmt} {h₀ : ExceptHandler} {hds : List ExceptHandler} {l : List Hd} {pos : Pos} {tb : WX → TS} {Wout : WX}
def tTry (K : PySem.W.Frag) (Wout : WX) (l : List Hd) (tb : WX → TS) : TS := fun D σ H => tb (wMix K Wout D l) D σ H
theorem ps_mix (hN : X.N.Nodup) (tk : Takes X Wout)
    (hb : ∀ (W : WX) (pn : List (Addr × Obj)) (xe : Value → Shared → Prop), Takes (X.tr pn xe) W → PassesOwn (model X.prog X.w) X.A X.env xe → PSs (X.tr pn xe) body (tb W))
    (hh : MixOk X (h₀ :: hds) l) (hs : X.stack = X.env :: X.outer := by rfl) (hf : X.env.frame = some X.env.locals := by rfl) : PS X (.Try body (h₀ :: hds) [] [] pos) (tTry X.K Wout l tb) := by
  refine ⟨fun pins s σ H D I h => ?_⟩
  have ok := I.ok
  have hfr : X.A.frames = some (X.env :: X.outer) := by rw [ok.frames, hs]
  refine wpAny_Try_except ?_
  refine wpAny_mono ((hb (wMix X.K Wout D l) (X.pn ++ pins) (fun e s₁ => wpAny (model X.prog X.w) X.A (noteFrame e X.env) (fun _ s₂ => wpAny (model X.prog X.w) X.A (setFlight e none) (fun _ s₃ =>
    wpAny (model X.prog X.w) X.A (handleBy e X.env (h₀ :: hds)) (SP X pins D) X.xe s₃) X.xe s₂) X.xe s₁) (fun u s' xx => ?_) PassesOwn.looking).run [] s σ H D (I.toTry _) h) (fun f s1 hsp => ?_) (fun e s1 he => he)
  · obtain ⟨a, B, sI, pins', σ', H', cls, d, rfl, J', nb, up, sky, na, os, ag, w⟩ := xx
    have J : Inv X pins σ' H' sI := J'.ofTry ok
    have sky' : Sky B (X.env :: X.outer) a (Zc cls d) X.env.locals s'.heap := by rw [← hs]; exact sky
    show wpAny (model X.prog X.w) X.A (noteFrame (.ref a) X.env) _ _ _
    refine Sky.land Zc.steady hfr hf sky' fun h3 fl3 up3 => ?_
    have J3 : Inv X pins σ' H' { s' with heap := h3 } := J.landed nb fl3.1 (up.trans up3) os ag
    obtain ⟨oe3, vs3, he3, hz3, hd3⟩ := fl3.there
    have notFr : ∀ {h : Heap} {o : Obj} {vs : Array Value}, h.FunFrames B (X.env :: X.outer) → h.get? a = some o → o.data = .fields vs → a ∉ frs (X.env :: X.outer) := fun {h o vs} ff e dd hm => by
      obtain ⟨_, o', e', hnf⟩ := ff.mem hm
      rw [e] at e'; cases e'
      exact hnf _ dd
    have nfr := notFr fl3.2.2.1 he3 hd3
    have nL : a ≠ X.env.locals := fun z => nfr (List.mem_filterMap.mpr ⟨X.env, List.mem_cons_self, by rw [hf, z]⟩)
    have nF : a ∉ X.fs := fun hm => by
      obtain ⟨e, he, q⟩ := List.mem_filterMap.mp hm
      exact nfr (List.mem_filterMap.mpr ⟨e, List.mem_cons_of_mem _ he, q⟩)
    have S3 := J3.suite he3 hd3 na nL nF
    have LT : PySem.W.Looks (model X.prog X.w) h3 (typeOf (.ref a)) cls := fun A Q E s k q => wpAny_typeOf_ref (k _ _ he3) (by rw [hz3.1]; exact q)
    have test : ∀ {x : Str} {c : Value} {np : Pos} {Q : Value → Shared → Prop} {E : Value → Shared → Prop}, Names X x c → Q c { s' with heap := h3 } → wpAny (model X.prog X.w) (X.A.mark (some (.ref a))) (eval (.Name x np) X.env) Q E { s' with heap := h3 } := fun {x c np Q E} hc q => by
      obtain ⟨hg, hdbg, hm | ⟨hm, hv, hnn⟩⟩ := hc
      · exact ld_glob (X := X.suite a ((a, oe3) :: (X.pn ++ pins))) S3 hg hm q hdbg
      · exact ld_blt (X := X.suite a ((a, oe3) :: (X.pn ++ pins))) S3 hg hm hv q hnn hdbg
    have go : ∀ {hds' : List ExceptHandler} {l' : List Hd}, MixOk X hds' l' → wMix X.K Wout D l' cls d σ' H' →
        wpAny (model X.prog X.w) X.A (handleBy (.ref a) X.env hds') (SP X pins D) X.xe { s' with heap := h3 } := by
      intro hds' l' hk
      induction hk with
      | nil =>
        intro w
        refine wpAny_handleBy_nil ?_
        obtain ⟨k1, k2, k3, oe, vs, T, oT, ts', he, hz, hd, h1, hr⟩ := id fl3
        unfold PySem.passOn
        refine wpAny_bind (wpAny_field he hd h1 ?_)
        rw [if_neg (show ¬ ((Value.ref T == Value.none) = true) from by simp)]
        have fin : wpAny (model X.prog X.w) X.A (setFlight (.ref a) X.env.frame) (fun _ s4 => wpAny (model X.prog X.w) X.A (throw (.ref a) : Sem Flow) (SP X pins D) X.xe s4) X.xe { s' with heap := h3 } := by
          rw [hf]
          refine HandSPX.setFlight_upZ fl3 fun h4 hh4 up4 => wpAny_throw (tk _ _ ?_)
          exact ⟨a, B, sI, pins, σ', H', cls, d, rfl, J, nb, (up.trans up3).trans up4, .inr (.inr (by rw [hs]; exact hh4)), na, os, ag, w⟩
        first
          | exact wpAny_bind (wpAny_pure (wpAny_bind fin))
          | exact wpAny_bind fin
      | @bare x c ts b₀ suite np pos' hds2 l2 hc hsu r ih =>
        intro w
        obtain ⟨b, hb1, hw⟩ := w
        refine wpAny_handleBy_cons (codeAny_handlers_test ?_) (by intro q; cases q)
        have LM := PySem.W.exm_one (M := model X.prog X.w) (J3.kIn) LT hb1
        refine test hc (LM.here ?_)
        cases b with
        | true =>
          refine codeAny_handlers_suite ?_
          refine HandSPX.lands_againZ fl3 fun h4 fl4 up4 => ?_
          have J4 : Inv X pins σ' H' { s' with heap := h4 } := J.landed nb fl4.1 ((up.trans up3).trans up4) os ag
          obtain ⟨oe4, vs4, he4, hz4, hd4⟩ := fl4.there
          have S4 := J4.suite he4 hd4 na nL nF
          refine wpAny_mono ((hsu a oe4 cls d (X.pn ++ pins) hz4 ⟨_, hd4⟩).run [] _ _ H' _ S4 (hw a na)) (fun f s6 hsp => ?_) (fun _ _ z => False.elim z)
          cases f with
          | next =>
            obtain ⟨σ6, H6, S6, q6⟩ := hsp
            exact ⟨_, _, S6.unsuite ok, q6⟩
          | brk =>
            obtain ⟨σ6, H6, S6, q6⟩ := hsp
            exact ⟨_, _, S6.unsuite ok, q6⟩
          | cont =>
            obtain ⟨σ6, H6, S6, q6⟩ := hsp
            exact ⟨_, _, S6.unsuite ok, q6⟩
          | ret u =>
            obtain ⟨v6, σ6, H6, S6, r6, q6⟩ := hsp
            exact ⟨_, _, _, S6.unsuite ok, r6, q6⟩
        | false =>
          show wpAny _ X.A (handleBy (.ref a) X.env hds2) _ _ _
          exact ih hw
      | @as x n c i ts b₀ suite np pos' hds2 l2 hc hi hln hsu r ih =>
        intro w
        obtain ⟨b, hb1, hw⟩ := w
        have hloc : Loc X.env.scope n := .inl hln
        refine wpAny_handleBy_cons (codeAny_handlers_test ?_) (by intro q; cases q)
        have LM := PySem.W.exm_one (M := model X.prog X.w) (J3.kIn) LT hb1
        refine test hc (LM.here ?_)
        cases b with
        | true =>
          refine codeAny_handlers_suite_as ?_
          refine HandSPX.lands_againZ fl3 fun h4 fl4 up4 => ?_
          have J4 : Inv X pins σ' H' { s' with heap := h4 } := J.landed nb fl4.1 ((up.trans up3).trans up4) os ag
          obtain ⟨oe4, vs4, he4, hz4, hd4⟩ := fl4.there
          have S4 := J4.suite he4 hd4 na nL nF
          refine store_ok (X := X.suite a ((a, oe4) :: (X.pn ++ pins))) (v := .ref a) S4 hN hi hloc rfl (fun s5 S5 => ?_) (.inr hln)
          refine wpAny_mono ((hsu a oe4 cls d (X.pn ++ pins) hz4 ⟨_, hd4⟩).run [] s5 _ H' _ S5 (hw a na)) (fun f s6 hsp => ?_) (fun _ _ z => False.elim z)
          have end_ : ∀ {σ6 : St} {H6 : Hp} {Q : Shared → Prop}, Inv (X.suite a ((a, oe4) :: (X.pn ++ pins))) [] σ6 H6 s6 → (∀ s7, Inv X pins (σ6.set i none) H6 s7 → Q s7) →
              wpAny (model X.prog X.w) X.A (do bindName X.env n .none; unbindBehindTheSuite X.env n pos') (fun _ s7 => Q s7) X.xe s6 := fun {σ6 H6 Q} S6 hq => gone_ok (S6.unsuite ok) hN hi hln hq
          cases f with
          | next =>
            obtain ⟨σ6, H6, S6, q6⟩ := hsp
            exact end_ S6 fun s7 J7 => ⟨_, _, J7, q6⟩
          | brk =>
            obtain ⟨σ6, H6, S6, q6⟩ := hsp
            exact end_ S6 fun s7 J7 => ⟨_, _, J7, q6⟩
          | cont =>
            obtain ⟨σ6, H6, S6, q6⟩ := hsp
            exact end_ S6 fun s7 J7 => ⟨_, _, J7, q6⟩
          | ret u =>
            obtain ⟨v6, σ6, H6, S6, r6, q6⟩ := hsp
            exact end_ S6 fun s7 J7 => ⟨_, _, _, J7, r6, q6⟩
        | false =>
          show wpAny _ X.A (handleBy (.ref a) X.env hds2) _ _ _
          exact ih hw
    exact go hh w
  · cases f with
    | next =>
      obtain ⟨σ', H', J', q⟩ := hsp
      exact wpAny_execs_nil ⟨σ', H', J'.ofTry ok, q⟩
    | brk =>
      obtain ⟨σ', H', J', q⟩ := hsp
      exact ⟨σ', H', J'.ofTry ok, q⟩
    | cont =>
      obtain ⟨σ', H', J', q⟩ := hsp
      exact ⟨σ', H', J'.ofTry ok, q⟩
    | ret u =>
      obtain ⟨v, σ', H', J', r, q⟩ := hsp
      exact ⟨v, σ', H', J'.ofTry ok, r, q⟩
end

/-! ### asked in a suite -/
/-- isinstance(e, c) -/
def rIsX (K : PySem.W.Frag) (a : Addr) (cls : Value) (d : Option Addr) : List V → Hp → VK → Prop := fun xs H Q => ∃ (D : Addr) (c : V) (cv : Value) (b : Bool), xs = [.ref a, c] ∧ cls = .ref D ∧ ExcC K D ∧ (∀ u, RelV c u → u = cv) ∧ PySem.W.kitOne K (.ref D) cv = some b ∧
  (∀ dd, d = some dd → ∃ fs, H dd = some (.xd fs)) ∧ Q (.bl b) H
theorem call_isX {X : Cx} {a : Addr} {oe : Obj} {cls : Value} {d : Option Addr} {pn : List (Addr × Obj)} (hz : Zc cls d oe) (hf : ∃ vs, oe.data = .fields vs) : CallR (X.suite a ((a, oe) :: pn)) (.builtin "isinstance") (rIsX X.K a cls d) := by
  intro pins s σ H xs us Q I r h
  obtain ⟨D, c, cv, b, rfl, rfl, C, hcv, e, hdd, q⟩ := h
  cases r with
  | cons rx rr =>
    cases rr with
    | cons rt rr =>
      cases rr
      cases rx
      have ec := hcv _ rt
      subst ec
      obtain ⟨hget, _⟩ := I.pin (a, oe) (List.mem_append.mpr (.inl List.mem_cons_self))
      obtain ⟨vs, hv⟩ := hf
      have hcl : (PySem.W.clsIn X.K D).isSome = true := by
        have h := C.hd
        unfold PySem.W.hasDictIn at h
        cases q : PySem.W.clsIn X.K D with
        | some _ => rfl
        | none => rw [q] at h; cases h
      have go : ∀ {od : Option Obj}, PySem.W.InstAt s.heap a oe D od → _ := fun {od} J =>
        PySem.W.kia_one (prog := X.prog) (w := X.w) (A := (X.suite a ((a, oe) :: pn)).A) (E := (X.suite a ((a, oe) :: pn)).xe) (Q := EP (X.suite a ((a, oe) :: pn)) pins σ Q) (PySem.W.kitx_exc (od := od) hcl C.hg C.hk C.hs C.ha C.hn C.ht C.hm) I.kIn J e (fun z => nomatch z) fun tk => ⟨.bl b, H, I.kept (t' := tk) fun _ _ z => z, rfl, q⟩
      cases d with
      | none => exact go (od := none) ⟨hget, hz.1, by unfold PySem.W.notCls; rw [hv] <;> rfl, by rw [hz.2]; trivial⟩
      | some dd =>
        obtain ⟨fs, ed⟩ := hdd dd rfl
        have hx : ObjOk X.prog X.w H s.heap dd (.xd fs) := I.hok dd _ ed
        obtain ⟨mA, ⟨od, _, _, ho, _⟩, _⟩ := hx
        exact go (od := some od) ⟨hget, hz.1, by unfold PySem.W.notCls; rw [hv] <;> rfl, by rw [hz.2]; exact ho⟩
/-- e.f -/
def tXg (K : PySem.W.Frag) (a : Addr) (cls : Value) (d : Option Addr) (f : Str) (te : TE) : TE := fun σ H Q => te σ H fun x H1 => x = .ref a ∧ ∃ (C dd : Addr) (fs : List Str) (kvs : List (Str × V)) (v : V), cls = .ref C ∧ XC K C fs ∧ f ∈ fs ∧ d = some dd ∧ H1 dd = some (.xd kvs) ∧ kvs.lookup f = some v ∧ Q v H1
theorem pe_xg {X : Cx} {a : Addr} {oe : Obj} {cls : Value} {d : Option Addr} {pn : List (Addr × Obj)} {e : Expr} {te : TE} {pos : Pos} {n : Str}
    (hz : Zc cls d oe) (hf : ∃ vs, oe.data = .fields vs) (he : PE (X.suite a ((a, oe) :: pn)) e te) (hb : attributeBase e n X.env (eval e X.env) = eval e X.env := by rfl) :
    PE (X.suite a ((a, oe) :: pn)) (.Attribute e n pos) (tXg X.K a cls d n te) := by
  refine ⟨fun pins s σ H Q I h => ?_⟩
  refine attr_of hb (thn (he.run pins s σ H _ I h) fun u s1 hh => ?_)
  obtain ⟨x, H1, I1, rx, ex, C, dd, fs, kvs, v, ec, xc, hm, ed, ea, l, q⟩ := hh
  subst ex
  obtain rfl : u = Value.ref a := rx
  subst ec
  subst ed
  obtain ⟨ha, _⟩ := I1.pin (a, oe) (List.mem_append_left _ List.mem_cons_self)
  obtain ⟨vs, hd⟩ := hf
  have hx : ObjOk X.prog X.w H1 s1.heap dd (.xd kvs) := I1.hok dd _ ea
  obtain ⟨mA, hns, hr⟩ := hx
  obtain ⟨od, ho, hl⟩ := lookIn_ns hns
  obtain ⟨u, hu, ru⟩ := RelO.some_of (v := v) (o := mA n) (by rw [← l]; exact hr n)
  have J : PySem.W.InstAt s1.heap a oe C (some od) := ⟨ha, hz.1, by unfold PySem.W.notCls; rw [hd] <;> rfl, by rw [hz.2]; exact ho⟩
  exact HandSPX.exc_get I1.kIn J xc.x.ga xc.x.gg xc.x.exC (PySem.W.findObj_own xc.x.hdC (xc.no n hm) rfl (by rw [hl, hu])) (handed_of ru) ⟨v, H1, I1.tok _, ru, q⟩
/-- what leaves a def -/
theorem tkE {P : Program} {w : World} {K : PySem.W.Frag} {mg : Str → Option Value} {base : Heap} {N : List Str} {qual : Str} {sc : Scope} {f : Addr} {cdv : Value} {A : Around} {outer : List Env} {s : Shared} {H : Hp} {E : XK} :
    Takes (cxOf (L2.CX P w) P w K mg base N qual sc f cdv A outer s H E) (fun cls d _ H => E cls d H) := takes_of rfl rfl rfl rfl
/-! ### the Hook: the kit's facts, one Bool more, and the statics among what is read -/
def frY (g : Addr → Option Obj) (n : Nat) : PySem.W.Frag := He.frT g (cStatics :: He.asD g n)
def obsY (n : Nat) (fa : List He.Fa) (fn : List He.DefD) (ex : PySem.W.Frag → Bool) (g : Addr → Option Obj) : He.AlD × Bool := (He.obsD fa fn (frY g n), ex (frY g n))
def hookY (n : Nat) (fa : List He.Fa) (fn : List He.DefD) (ex : PySem.W.Frag → Bool) : PySem.W.Hook where
  α := He.AlD × Bool
  obs := fun s => obsY n fa fn ex s.heap.get?
  val := fun _ => (He.valD fn, true)
  says := fun _ h => ∃ K : PySem.W.Frag, K.In h ∧ He.SaysD fa fn K ∧ ex K = true
  of := fun _ _ e => ⟨_, He.frT_in, congrArg Prod.fst e, congrArg Prod.snd e⟩
  keeps := fun _ _ _ ⟨K, hK, c⟩ k => ⟨K, PySem.W.Frag.In.keeps hK k, c⟩
theorem obsY_eq {n : Nat} {fa : List He.Fa} {fn : List He.DefD} {ex : PySem.W.Frag → Bool} {g : Addr → Option Obj} {s : Shared} (h : ∀ a, g a = s.heap.get? a) : obsY n fa fn ex g = (hookY n fa fn ex).obs s := by
  have e : g = s.heap.get? := funext h
  rw [e] <;> rfl
end FG

/-! GHo: C.m(self, ..) of an own class; d.pop(t) of a dict with tuple keys; d.values() of such a (locked) dict. Own layer over HandS. -/
namespace FG
open PySem PySem.Spec L2
open PyProof.Rows hiding St

/-! ### C.m(e, ..) -/
/-- what the written part says: C.m is the def at f -/
structure UnbK (K : PySem.W.Frag) (C : Addr) (m : Str) (f : Addr) : Prop where
  r : PySem.W.readsIn K C (.type "type") = true
  e : PySem.W.findCls K (.ref C) (.type "type") m = some (.val (.ref f))
  t : PySem.W.typeIn K (.ref C) = some (.type "type")
/-- what isinstance asks of an own class's instances -/
structure TyK (K : PySem.W.Frag) (D : Addr) : Prop where
  ha : PySem.W.findIn K (.ref D) "__class__" = some (some (.builtin "object.__class__"))
  hn : PySem.W.specialIn K (.builtin "object.__class__") "__get__" = some (some (.builtin "getset_descriptor.__get__"))
  htk : PySem.W.takesIn K (.builtin "object.__class__") = some true
  hm : PySem.W.mroIn K D (.type "object") = some true
def tyB (K : PySem.W.Frag) (D : Addr) : Bool := decide (PySem.W.findIn K (.ref D) "__class__" = some (some (.builtin "object.__class__"))) && (decide (PySem.W.specialIn K (.builtin "object.__class__") "__get__" = some (some (.builtin "getset_descriptor.__get__"))) &&
  (decide (PySem.W.takesIn K (.builtin "object.__class__") = some true) && decide (PySem.W.mroIn K D (.type "object") = some true)))
theorem tyB_ok {K : PySem.W.Frag} {D : Addr} (h : tyB K D = true) : TyK K D := by
  unfold tyB at h
  obtain ⟨h1, h⟩ := ba2 h
  obtain ⟨h2, h⟩ := ba2 h
  obtain ⟨h3, h4⟩ := ba2 h
  exact ⟨of_decide_eq_true h1, of_decide_eq_true h2, of_decide_eq_true h3, of_decide_eq_true h4⟩
theorem TyK.ins {K : PySem.W.Frag} {D a dx : Addr} {fs : List (Str × V)} {H : Hp} (t : TyK K D) (cl : Cls K D) (e : H a = some (.ins D dx fs)) : TyX K H (.ref a) (.ref D) := .base (.ins e cl t.ha t.hn t.htk t.hm)
def unbB (K : PySem.W.Frag) (C : Addr) (m : Str) (f : Addr) : Bool := PySem.W.readsIn K C (.type "type") && ((match PySem.W.findCls K (.ref C) (.type "type") m with
  | some (.val v) => decide (v = .ref f)
  | _ => false) && decide (PySem.W.typeIn K (.ref C) = some (.type "type")))
theorem unbB_ok {K : PySem.W.Frag} {C f : Addr} {m : Str} (h : unbB K C m f = true) : UnbK K C m f := by
  unfold unbB at h
  obtain ⟨h1, h⟩ := ba2 h
  obtain ⟨h2, h3⟩ := ba2 h
  refine ⟨h1, ?_, of_decide_eq_true h3⟩
  split at h2
  · rename_i v e
    rw [e, of_decide_eq_true h2]
  · cases h2
theorem getm_cls {prog : Program} {w : World} {A : Around} {E : Value → Shared → Prop} {s : Shared} {K : PySem.W.Frag} {C f : Addr} {m : Str} {pl : Sem Bool} {Q : Value × List Value → Shared → Prop} (X : K.In s.heap) (t : UnbK K C m f)
    (h : Q (.ref f, []) { s with toks := s.toks + 1 }) : wpAny (model prog w) A (getMethod (.ref C) m pl) Q E s := by
  have L0 : PySem.W.Looks (model prog w) s.heap (typeOf (.ref C)) (.type "type") := PySem.W.looks_typeIn X t.t
  have hg : PySem.W.findIn K (.type "type") "__getattribute__" = some (some (.builtin "type.__getattribute__")) := by
    have := t.r
    simp only [PySem.W.readsIn, Bool.and_eq_true, beq_iff_eq] at this
    exact this.1.1.2
  unfold getMethod specialOf
  refine wpAny_bind (wpAny_bind (L0.here ((PySem.W.looks_findIn X hg).here ?_)))
  dsimp only
  rw [if_pos PySem.W.canon_tga]
  refine wpAny_bind (wpAny_mono (Q := fun v => Q (v, [])) (E := E) ?_ (fun _ _ z => wpAny_pure z) fun _ _ z => z)
  exact PySem.W.cls_value X t.r t.e rfl h
/-- C.m of the module keeps sp -/
structure Unb (P : Program) (w : World) (K : PySem.W.Frag) (mg : Str → Option Value) (base : Heap) (k : Nat) (x m : Str) (sp : Sp) : Prop where
  ex : ∃ (C f : Addr) (fd : FuncData) (ps : List Str), UnbK K C m f ∧ FnG P w K mg base k f fd ps sp ∧ Binds K fd ps [] ∧ mg x = some (.ref C) ∧ PySem.W.keepIn K (.ref f) = true
theorem Unb.of {P : Program} {w : World} {K : PySem.W.Frag} {mg : Str → Option Value} {base : Heap} {k : Nat} {x m n q : Str} {C f : Addr} {ps : List Str} {st : Stmt} {sp : Sp} (u : UnbK K C m f) (g : mg x = some (.ref C)) (F : ∃ fd, Fun K n q st f fd)
    (b : ∀ {fd}, Fun K n q st f fd → Binds K fd ps []) (h : ∀ {fd}, Fun K n q st f fd → FnG P w K mg base k f fd ps sp) : Unb P w K mg base k x m sp :=
  let ⟨fd, z⟩ := F; ⟨C, f, fd, ps, u, h z, b z, g, z.kp⟩
section
variable {X : Cx} {k : Nat} {sp : Sp} {W : WX} {x m : Str} {np pos apos : Pos} {e : Expr} {es : List Expr} {t : TA}
theorem gu {pl : Sem Bool} (c : Unb X.prog X.w X.K X.mg X.base k x m sp) (hr : RG k X.A) (tk : Takes X W) (ha : PA X (e :: es) t) (hg : Gl X x := by rfl) (hdb : (x == ("__debug__" : Str)) = false := by decide)
    (hst : starEach (e :: es) X.env = (false, eval e X.env) :: starEach es X.env := by rfl) (hpl : (backTo pos (starEach es X.env)).any (·.1) = false := by rfl)
    (ht : eval (.Call (.Attribute (.Name x np) m apos) (e :: es) [] pos) X.env = (do let ov ← eval (.Name x np) X.env; standAt apos.atName; let (f, first) ← holding [ov] (getMethod ov m pl); callWith pos f first (backTo pos (starEach (e :: es) X.env)) (backToKw pos (keywordEach [] X.env))) := by rfl) :
    PE X (.Call (.Attribute (.Name x np) m apos) (e :: es) [] pos) (tG sp W t) := by
  obtain ⟨C, f, fd, ps, u, F, hb, hm, hk⟩ := c.ex
  refine ⟨fun pins s σ H Q I h => PySem.W.methodCall_KW (pl := pl) (ld_glob I hg hm ?_ hdb) ht⟩
  refine getm_cls I.kIn u ?_
  have I2 : Inv X pins σ H { s with toks := s.toks + 1 } := I.tok _
  refine PySem.W.callWith_K (first := []) (h₀ := X.base) I2.ok.mod.kin hk (thn (ha.run pos pins { s with toks := s.toks + 1 } σ H _ I2 h) fun us s2 ⟨vs, H2, I3, r, q2⟩ => ⟨I3.kIn, ?_⟩) hst hpl
  exact runs F hr hb tk I3 r q2
end

/-! ### d.pop(t), t there -/
def rPopT1 : V → List V → Hp → VK → Prop := fun x xs H Q => ∃ (a : Addr) (kvs : List (List L2.Key × V)) (k : List L2.Key) (b : Addr) (v : V), x = .ref a ∧ xs = [.ref b] ∧ H a = some (.dT kvs) ∧ H b = some (.tup (k.map kV)) ∧
  valV kvs k = some v ∧ Q v (upd H a (.dT (dropK kvs k)))
theorem mt_popT1 {X : Cx} (hu : X.A.units + 1 < cLine) : MtR X "dict.pop" rPopT1 := by
  intro pins s σ H x xs v us Q I rx rxs h
  obtain ⟨a, kvs, k, b, v0, rfl, rfl, ha, hb, hv, q⟩ := h
  cases rx
  rw [Vals.ref1 rxs]
  obtain ⟨z, hd, xs', rel, dd⟩ := dt_of I.hok ha
  have hz : xs'.length ≤ sizeLine := by rw [← Paired.length rel]; exact z
  have r := rel.val k
  rw [hv] at r
  obtain ⟨p, hp, rv⟩ : ∃ p, atKey xs' k = some p ∧ RelV v0 p.2 := by
    cases ev : atKey xs' k with
    | none => rw [ev] at r; exact (show False from r).elim
    | some p => rw [ev] at r; exact ⟨p, rfl, r⟩
  refine call_pop_heap (knd := tupleKind (mixKind X.prog X.w)) (k := k) (.inl rfl) (PySem.F.args_dict_pop_2 _ _) (tupleKind_room_in1 hu) (key_of I.hok hb) hd dd hp (fun h' dd' hs => ?_) hz
  obtain ⟨o, es, ep, hq, h2, h3, h4, _, h5⟩ := dd'
  have I2 : Inv X pins σ (upd H a (.dT (dropK kvs k))) { s with heap := h', toks := s.toks + (tupleKind (mixKind X.prog X.w)).draws k } :=
    d_write I (by rw [ha]; exact True.intro) hs ⟨o, hq⟩ ⟨Nat.le_trans (dropK_le kvs k) z, hd, _, (L2.DX.KT_drop k rel).keeps (fun c ys ec => (by rw [upd_ne (ne_of ec ha (fun z => nomatch z))]; exact ec)), o, es, ep, hq, h2, h3, h4, h5⟩
  exact ⟨v0, _, I2, rv, q⟩

/-! ### for v in d.values(), d locked, its keys tuples -/
def Itvt (d : Addr) (o : Obj) (kvs : List (List L2.Key × V)) : It :=
  ⟨fun i H => H d = some (.frz o (.dT kvs)) ∧ i < kvs.length, fun i H x H' => H' = H ∧ ∃ k, kvs[i]? = some (k, x), fun i H => H d = some (.frz o (.dT kvs)) ∧ kvs.length ≤ i⟩
def iValsT (td : TE) : TI := fun σ H R => td σ H fun x H1 => ∃ d o kvs, x = .ref d ∧ H1 d = some (.frz o (.dT kvs)) ∧ R (Itvt d o kvs) H1
section
variable {X : Cx} {pins : List (Addr × Obj)} {σ : St} {H : Hp} {s : Shared} {d : Addr} {o : Obj}
theorem frzTv {kvs : List (List L2.Key × V)} (I : Inv X pins σ H s) (h : H d = some (.frz o (.dT kvs))) :
    (d == sysModules) = false ∧ s.heap.get? d = some o ∧ o.ExactDict ∧ ∃ (es : Array DictEntry) (ep : Nat), o.data = .dict es ep ∧ es.size = kvs.length ∧
      ∀ (i : Nat) (k : List L2.Key) (v : V), kvs[i]? = some (k, v) → ∃ en : DictEntry, es[i]? = some en ∧ RelV v en.val := by
  obtain ⟨hd, z, hs, xs, pr, o', es, ep, ho, hx, hdt, he, _⟩ := I.hok d _ h
  rw [hd] at ho
  cases ho
  refine ⟨hs, hd, hx, es, ep, hdt, ?_, fun i k v e => ?_⟩
  · have l1 : es.size = xs.length := size_of_entries he
    have l2 : kvs.length = xs.length := Paired.length pr
    omega
  · obtain ⟨b, hb, e1, e2, e3⟩ := paired_get pr e
    have q := entry_at he i
    rw [hb] at q
    exact ⟨_, q, e3⟩
theorem ep_eq {o : Obj} {es es' : Array DictEntry} {ep ep' : Nat} (h : o.data = .dict es ep) (h' : o.data = .dict es' ep') : es = es' ∧ ep = ep' := by
  rw [h] at h'; cases h'; exact ⟨rfl, rfl⟩
theorem turn_valsT {P : Program} {w : World} {K : PySem.W.Frag} {tg : Expr} {es : Array DictEntry} {ep : Nat} {kvs : List (List L2.Key × V)} (it : Addr) (hod : o.data = .dict es ep) : Turn P w K tg (Itvt d o kvs) [it] it (fun i h => h.get? it = some (DVw.valOb d i kvs.length ep)) where
  mem := by simp
  obj := fun i h st b hb => by
    have e : b = it := by simpa using hb
    subst e
    exact ⟨_, st, fun v z => by cases z⟩
  keep := fun i h h' st k => k it (by simp) _ st
  item := by
    intro X hP hw hK hc i pins s σ H E I hf st hg
    subst hP hw hK
    obtain ⟨hd, hi⟩ := hg
    obtain ⟨f0, f1, f2, f3, f4, f5⟩ := hf it (by simp)
    obtain ⟨hs, hgd, hx, es', ep', hdt, hsz, ent⟩ := frzTv I hd
    obtain ⟨rfl, rfl⟩ := ep_eq hod hdt
    obtain ⟨⟨k, v⟩, hkv⟩ : ∃ p, kvs[i]? = some p := ⟨kvs[i], List.getElem?_eq_getElem hi⟩
    obtain ⟨en, hen, rv⟩ := ent i k v hkv
    refine DVw.val_item st hgd hdt hsz hen fun h' st' sb => ?_
    have I1 : Inv X pins σ H { s with heap := h' } := I.turned (t' := s.toks) (fun b ob hb e => (sb.2 b hb).trans e) f0 f1 f3 f4 f5
    exact ⟨en.val, rfl, go_of (s := { s with heap := h' }) st' rfl rfl (by decide) ⟨v, H, I1, rv, ⟨rfl, k, hkv⟩, st', fun b hb => (hf b hb).1⟩⟩
  done := by
    intro X hP hw hK hc i pins s σ H E I hf st hg
    subst hP hw hK
    obtain ⟨hd, hi⟩ := hg
    obtain ⟨f0, f1, f2, f3, f4, f5⟩ := hf it (by simp)
    obtain ⟨hs, hgd, hx, es', ep', hdt, hsz, ent⟩ := frzTv I hd
    obtain ⟨rfl, rfl⟩ := ep_eq hod hdt
    exact DVw.val_end (I.ok.hd hc) st hgd hdt hsz (Array.getElem?_eq_none (by omega)) fun h' eb => ⟨rfl, I.turned (t' := s.toks) (fun b ob hb e => eb b ob hb e) f0 f1 f3 f4 f5⟩
  self := fun A i s Q E st h => wpAny_pyIter_valiter (d := d) (i := i) (n := kvs.length) (ep := ep) ⟨_, st, rfl, rfl⟩ h
theorem meetsVals {prog : Program} {w : World} {d : Addr} {es : Array DictEntry} {ep : Nat} (hd : (d == sysModules) = false) :
    MeetsIn prog w (Builtin.«dict.values» ⟨[.ref d], []⟩) (fun _ R s => DT.Raw s.heap d es ep ∧
      R (.ok (.ret (.ref s.heap.objs.size))) { s with heap := s.heap.push { cls := .type "dict_values", data := .fields #[.ref d] } }) :=
  .of_wp fun A R s ⟨hm, h⟩ => by
    show wpAny _ _ (Builtin.Dict.noArgs "values" ⟨[.ref d], []⟩ >>= _) _ _ s
    refine wpAny_bind ?_
    unfold Builtin.Dict.noArgs
    refine wpAny_bind (wpAny_notOrdered_dict hm.typeIs ?_)
    show wpAny _ _ (pure d) _ _ s
    refine wpAny_pure ?_
    show wpAny _ _ (Builtin.Dict.showsAll d >>= _) _ _ s
    unfold Builtin.Dict.showsAll
    rw [if_neg (by rw [hd]; exact Bool.false_ne_true)]
    refine wpAny_bind (wpAny_pure ?_)
    exact wpAny_bind (wpAny_newObj_type (wpAny_pure ⟨_, rfl, h⟩))
end
theorem pi_valuesT {X : Cx} {tg e : Expr} {td : TE} {apos cpos : Pos} (he : PE X e td) (hbase : attributeBase e "values" X.env (eval e X.env) = eval e X.env := by rfl) (hline : (apos.endLine == cpos.line) = true := by rfl) : PI X tg (.Call (.Attribute e "values" apos) [] [] cpos) (iValsT td) := by
  refine ⟨fun pins s σ H R I h => ?_⟩
  refine wpAny_Call_method (T := "dict") (id := "dict.values") hbase rfl hline F.plainAttrs_dict F.slot_dict_values F.type_dict_values (thn (he.run pins s σ H _ I h) fun u s1 ⟨x, H1, I1, rx, d, o, kvs, ex, hd, q⟩ => ?_)
  subst ex
  obtain rfl : u = Value.ref d := rx
  obtain ⟨hs, hgd, hx, es, ep, hdt, hsz, ent⟩ := frzTv I1 hd
  have hm : DT.Raw s1.heap d es ep := ⟨o, hgd, hx, hdt⟩
  refine ⟨hm.typeIs, (fun b e => by injection e with e; subst e; exact ⟨o, hgd, hx.2.1⟩), ?_⟩
  have I2 : Inv X pins σ H1 { s1 with heap := s1.heap.push { cls := .type "dict_values", data := .fields #[.ref d] } } := I1.kept (t' := s1.toks) fun b ob q => Heap.get?_push_of_some _ q
  have fin : wpAny (model X.prog X.w) X.A (pyIter (.ref s1.heap.objs.size)) (PIE X pins σ tg R) X.xe { s1 with heap := s1.heap.push { cls := .type "dict_values", data := .fields #[.ref d] } } := by
    refine DSub.iter_vals (a := d) (es := es) (ep := ep) (ob := o) (Heap.get?_push_size _ rfl) (Heap.get?_push_of_some _ hgd) hdt ?_
    rw [hsz]
    exact pi_one (tk := s1.toks) I2 _ (turn_valsT _ hdt) (Heap.get?_push_size _ rfl) q
  show wpAny _ _ (callWith cpos (.builtin "dict.values") [.ref d] [] []) _ X.xe s1
  exact method_meetsIn F.slot_dict_values F.entry_dict_values rfl (PySem.evalArgs_none ⟨rfl, hm.typeIs, F.args_dict_values_1 _, _, meetsVals (es := es) (ep := ep) hs, hm, fin⟩)
theorem walk_valsT {d : Addr} {o : Obj} {kvs : List (List L2.Key × V)} : Walk (Itvt d o kvs) kvs.length (fun H => H d = some (.frz o (.dT kvs))) (fun i H x H' => H' = H ∧ ∃ k, kvs[i]? = some (k, x)) :=
  ⟨fun _ _ hi q => ⟨q, hi⟩, fun _ q => ⟨q, Nat.le_refl _⟩, fun _ _ _ _ _ _ y => y⟩
/-! ### xs[a:b:c] -/
def tSl3 (K : PySem.W.Frag) (te : TE) (tl th ts : TO) : TE := fun σ H Q => te σ H fun x H1 => tl σ H1 fun l H2 => th σ H2 fun u H3 => ts σ H3 fun c H4 => ∃ a xs, x = .ref a ∧ SqL K H4 a xs ∧ c ≠ some 0 ∧
  ∀ p ys, H4 p = none → (∀ y ∈ ys, y ∈ xs) → ys.length ≤ xs.length → Q (.ref p) (upd H4 p (.lst ys))
theorem pick_vals {xs : List V} {its : List Value} (r : Vals xs its) : ∀ idx : List Nat, ∃ ys, Vals ys (idx.filterMap (its.toArray[·]?)) ∧ (∀ y ∈ ys, y ∈ xs) := by
  intro idx
  induction idx with
  | nil => exact ⟨[], .nil, fun y h => by cases h⟩
  | cons i idx ih =>
    obtain ⟨ys, h1, h2⟩ := ih
    cases e : xs[i]? with
    | none =>
      have l1 : xs.length ≤ i := List.getElem?_eq_none_iff.mp e
      have e2 : its.toArray[i]? = none := by
        rw [List.getElem?_toArray]
        exact List.getElem?_eq_none_iff.mpr (by rw [← r.length]; exact l1)
      exact ⟨ys, by rw [List.filterMap_cons, e2]; exact h1, h2⟩
    | some x =>
      obtain ⟨b, hb, hx⟩ := paired_get r e
      have e2 : its.toArray[i]? = some b := by rw [List.getElem?_toArray]; exact hb
      refine ⟨x :: ys, by rw [List.filterMap_cons, e2]; exact .cons hx h1, fun y hy => ?_⟩
      rcases List.mem_cons.mp hy with z | z
      · subst z; exact List.mem_of_getElem? e
      · exact h2 y z
theorem pick_len {items : Array Value} {lo hi st : Option Int} : (slicePick items lo hi st).size ≤ items.size := by
  unfold slicePick
  rw [List.size_toArray]
  refine Nat.le_trans (List.length_filterMap_le _ _) ?_
  refine sliceRange_length_le _ _ _ _ (fun hp => ?_) (fun hm => ?_)
  · unfold sliceBounds at hp ⊢
    simp only at hp ⊢
    constructor
    · cases lo with
      | none => simp [hp]
      | some i => simp only [hp, if_true]; omega
    · cases hi with
      | none => simp [hp]
      | some i => simp only [hp, if_true]; omega
  · unfold sliceBounds at hm ⊢
    simp only at hm ⊢
    constructor
    · cases lo with
      | none => simp [hm]
      | some i => simp only [hm, if_false]; omega
    · cases hi with
      | none => simp [hm]
      | some i => simp only [hm, if_false]; omega
theorem pe_sl3 {X : Cx} {e : Expr} {lo hi st : Option Expr} {te : TE} {tl th ts : TO} {p3 pos : Pos} (he : PE X e te) (hl : PO X lo tl) (hh : PO X hi th) (hst : PO X st ts)
    (hsub : ∀ a b : Addr, subscripted (.Slice lo hi st p3) false (.ref a) (.ref b) = operate [.ref a, .ref b] (getItem (.ref a) (.ref b)) := by intro _ _; with_unfolding_all rfl) :
    PE X (.Subscript e (.Slice lo hi st p3) pos) (tSl3 X.K te tl th ts) := by
  refine ⟨fun pins s σ H Q I h => ?_⟩
  refine Subscript_ (thn (he.run pins s σ H _ I h) fun v s1 ⟨x, H1, I1, r1, q1⟩ => ?_)
  refine wpAny_Slice (thn (hl.run pins s1 σ H1 _ I1 q1) fun vl s2 ⟨l, H2, I2, pl, q2⟩ => ?_)
  refine thn (hh.run pins s2 σ H2 _ I2 q2) fun vu s3 ⟨u, H3, I3, pu, q3⟩ => ?_
  refine thn (hst.run pins s3 σ H3 _ I3 q3) fun vs s4 ⟨o, H4, I4, ps, q4⟩ => ?_
  obtain ⟨a, xs, ex, hx, h0, q⟩ := q4
  subst ex
  cases r1
  have I5 : Inv X pins σ H4 { s4 with heap := s4.heap.push { cls := .type "slice", data := .fields #[vl, vu, vs] } } := I4.kept (t' := s4.toks) fun b ob q => Heap.get?_push_of_some _ q
  obtain ⟨its, r, ht, hz⟩ := I5.list hx
  have hlen := r.length
  show wpAny (model X.prog X.w) X.A (subscriptTail e (.Slice lo hi st p3) (.ref a) (.ref s4.heap.objs.size)) (EP X pins σ Q) X.xe { s4 with heap := s4.heap.push { cls := .type "slice", data := .fields #[vl, vu, vs] } }
  refine tail_any (ops := [.ref a, .ref s4.heap.objs.size]) ht.isList.typeIs (PySem.slot_list_getitem.lookup) ?_ (hsub _ _)
  refine wpAny_getItem_list_slice ht.isList (Heap.IsSliceOf.new _ vl vu vs) pl pu ps h0 ?_ (by rw [List.size_toArray]; omega)
  have hp := pick_len (items := its.toArray) (lo := l) (hi := u) (st := o)
  obtain ⟨ys, hy, hm⟩ := pick_vals r (sliceRange (sliceBounds l u o its.toArray.size).1 (sliceBounds l u o its.toArray.size).2.1 (sliceBounds l u o its.toArray.size).2.2)
  have hs : slicePick its.toArray l u o = ((sliceRange (sliceBounds l u o its.toArray.size).1 (sliceBounds l u o its.toArray.size).2.1 (sliceBounds l u o its.toArray.size).2.2).filterMap (its.toArray[·]?)).toArray := rfl
  rw [hs, List.size_toArray, ← hy.length, List.size_toArray, ← hlen] at hp
  rw [hs]
  refine ⟨.ref _, _, I5.laid (t' := s4.toks) (o := .lst ys) (fun b ob q => Heap.get?_push_of_some _ q) (Nat.le_refl _) ?_, rfl, q _ ys (I5.hok.fresh (Nat.le_refl _)) hm hp⟩
  exact ⟨Nat.le_trans hp hz, _, 0, hy, Heap.get?_push_size _ rfl⟩
theorem ksl3 (K : PySem.W.Frag) {X : Cx} {e : Expr} {lo hi st : Option Expr} {te : TE} {tl th ts : TO} {p3 pos : Pos} (he : PE X e te) (hl : PO X lo tl) (hh : PO X hi th) (hst : PO X st ts) (hK : X.K = K := by rfl)
    (hsub : ∀ a b : Addr, subscripted (.Slice lo hi st p3) false (.ref a) (.ref b) = operate [.ref a, .ref b] (getItem (.ref a) (.ref b)) := by intro _ _; with_unfolding_all rfl) :
    PE X (.Subscript e (.Slice lo hi st p3) pos) (tSl3 K te tl th ts) := by subst hK; exact pe_sl3 he hl hh hst hsub
/-! ### xs != [] -/
def rNeE (K : PySem.W.Frag) : R2 := fun x y H Q => ∃ a b xs, x = .ref a ∧ y = .ref b ∧ SqL K H a xs ∧ SqL K H b [] ∧ Q (.bl (!xs.isEmpty)) H
theorem kneE {X : Cx} (K : PySem.W.Frag) (hu : X.A.units + 64 < cLine) (hK : X.K = K := by rfl) : OpR X (compareOp .NotEq) (rNeE K) := by
  subst hK
  intro pins s σ H x y v u Q I rx ry h
  obtain ⟨a, b, xs, rfl, rfl, ha, hb, q⟩ := h
  cases (show v = Value.ref a from rx)
  cases (show u = Value.ref b from ry)
  obtain ⟨us, r1, p1, _⟩ := I.list ha
  obtain ⟨ws, r2, p2, _⟩ := I.list hb
  cases r2
  cases r1 with
  | nil => exact SeqAt.RcNeAt.lists (e := fun _ => true) p1.isList p2.isList rfl (by omega) (fun j h1 _ => absurd h1 (Nat.not_lt_zero j)) _ _ _ _ ⟨.bl false, H, I, rfl, q⟩
  | cons c d => exact SeqAt.RcNeAt.lists_lengths p1.isList p2.isList (by simp) (by omega) _ _ _ _ ⟨.bl true, H, I, rfl, q⟩
end FG

/-! GHot: a def that is called, within an except suite, with what was caught. Own layer over HandS. -/
namespace FG
open PySem PySem.Spec L2
open PyProof.Rows hiding St

/-- what is wanted, by the exception's address, class and fields -/
abbrev SpX := Addr → Value → Option Addr → List V → Hp → VK → Prop
structure FnX (P : Program) (w : World) (K : PySem.W.Frag) (mg : Str → Option Value) (base : Heap) (k : Nat) (f : Addr) (fd : FuncData) (ps : List Str) (sp : SpX) : Prop where
  len : ∀ a cls d vs H Q, sp a cls d vs H Q → vs.length = ps.length
  run : ∀ (A : Around) (outer : List Env) (s : Shared) (H : Hp) (args : Args) (us : List Value) (vs : List V) (Q : VK) (p : Addr × Obj) (cls : Value) (d : Option Addr), L2H.RoomH k A → Zc cls d p.2 → (∃ z, p.2.data = .fields z) → L2H.PinOk outer H s p → Env0 P w K mg base A outer s H →
    BindsTo s fd args (ps.zip us) → Vals vs us → sp p.1 cls d vs H Q → codeAny (model P w) A (.call (.ref f) args) (CR (L2.CX P w) outer P w H s Q fun _ _ _ => False) s
section
variable {P : Program} {w : World} {K : PySem.W.Frag} {mg : Str → Option Value} {base : Heap}
/-- a def of the text, by its body -/
theorem FnX.of {x qual : Str} {st : Stmt} {f : Addr} {fd : FuncData} {N ps : List Str} {k : Nat} {sp : SpX} (F : Fun K x qual st f fd) (S : FnScope N ps (defScope st)) (hn : ∀ a cls d vs H Q, sp a cls d vs H Q → vs.length = ps.length)
    (hb : ∀ (cdv : Value) (A : Around) (outer : List Env) (s : Shared) (H : Hp) (vs : List V) (Q : VK) (p : Addr × Obj) (cls : Value) (d : Option Addr), L2H.RoomH k (A.deeper (envOfC qual (defScope st) s.heap.objs.size f cdv)) → Zc cls d p.2 → (∃ z, p.2.data = .fields z) → sp p.1 cls d vs H Q →
      ∃ t, PSs (L2H.cxH (L2.CX P w) P w K mg base N qual (defScope st) f cdv A outer s H (fun _ _ _ => False) p) (defBody st) t ∧ t { nx := fun _ H' => Q .non H', rt := Q } (start N vs) H) : FnX P w K mg base (k + 1) f fd ps sp := by
  obtain ⟨oc, od, kV, doc, pm, an, cdv, ct, osl, rfl, lk, hcd⟩ := F.ex
  refine ⟨hn, fun A outer s H ar us vs Q p cls d hg hz hf hpin env0 bnd rel hsp => ?_⟩
  have len := hn _ _ _ _ _ _ hsp
  have inK : K.In s.heap := env0.mod.kin.keeps fun b o z => (env0.bs b o z).1
  have nol : s.heap.NoLimit := env0.mod.nolimit.keeps fun b o z => (env0.bs b o z).1
  have hk : ∀ y ∈ ps.zip us, (defScope st).names.lookup y.1 = some .local ∨ ((defScope st).names.lookup y.1 = some .cell ∧ ((cellsFrom (s.heap.objs.size + 1) (defScope st).names []).lookup y.1).isSome = true) := by
    rintro ⟨n, v⟩ hy
    exact (S.par n (List.of_mem_zip hy).1).elim .inl fun q => .inr ⟨q, PySem.W.cellsFrom_some _ _ _ (.inl q)⟩
  refine codeAny_call_function hg.depth (inK _ _ lk) rfl S.co S.gen rfl (PySem.W.codeRec_of inK hcd) (bnd _ _ _ _ ?_)
  refine wpAny_newFunctionEnv_cells S.kind hk fun env ee s1 inc => ?_
  subst ee
  refine ⟨nol.keeps inc.toInCall.keep, codeAny_func ?_⟩
  obtain ⟨t, ht, hq⟩ := hb cdv A outer s H vs Q p cls d (hg.deeper _) hz hf hsp
  have I0 : Inv (L2H.cxH (L2.CX P w) P w K mg base N qual (defScope st) f cdv A outer s H (fun _ _ _ => False) p) [] (start N vs) H s1 := L2H.inv_startH S hpin env0 len rel inc
  refine wpAny_mono (ht.run [] s1 (start N vs) H _ I0 hq) (fun fl s2 hs => ?_) fun _ _ hs => hs
  have fin : ∀ {σ2 : St} {H2 : Hp} {v : V} {u : Value}, Inv (L2H.cxH (L2.CX P w) P w K mg base N qual (defScope st) f cdv A outer s H (fun _ _ _ => False) p) [] σ2 H2 s2 → RelV v u → Q v H2 → CE outer P w H s Q u s2 := by
    intro σ2 H2 v u J rv q
    exact ⟨v, H2, J.os, J.bare, J.base, J.hok, rv, q⟩
  match fl, hs with
  | .ret u, ⟨v, σ2, H2, J, rv, q⟩ => exact fin J rv q
  | .next, ⟨σ2, H2, J, q⟩ => exact fin (v := V.non) (u := Value.none) J rfl q
  | .brk, ⟨_, _, _, q⟩ => exact q.elim
  | .cont, ⟨_, _, _, q⟩ => exact q.elim
/-- the module's def x, called with what was caught, keeps sp -/
structure CalX (P : Program) (w : World) (K : PySem.W.Frag) (mg : Str → Option Value) (base : Heap) (k : Nat) (x : Str) (sp : SpX) : Prop where
  ex : ∃ (f : Addr) (fd : FuncData) (ps : List Str), FnX P w K mg base k f fd ps sp ∧ mg x = some (.ref f) ∧ PySem.W.keepIn K (.ref f) = true ∧ Binds K fd ps []
theorem CalX.of {k : Nat} {x n q : Str} {f : Addr} {ps : List Str} {st : Stmt} {sp : SpX} (g : mg x = some (.ref f)) (F : ∃ fd, Fun K n q st f fd) (b : ∀ {fd}, Fun K n q st f fd → Binds K fd ps []) (h : ∀ {fd}, Fun K n q st f fd → FnX P w K mg base k f fd ps sp) : CalX P w K mg base k x sp :=
  let ⟨fd, z⟩ := F; ⟨f, fd, ps, h z, g, z.kp, b z⟩
end
section
variable {X : Cx} {k : Nat} {sp : SpX} {x : Str} {p pos : Pos} {e : Expr} {es : List Expr} {t : TA} {a : Addr} {oe : Obj} {cls : Value} {d : Option Addr} {pn : List (Addr × Obj)}
theorem gx (c : CalX X.prog X.w X.K X.mg X.base k x sp) (hr : RG k X.A) (hz : Zc cls d oe) (hf : ∃ z, oe.data = .fields z) (ha : PA (X.suite a ((a, oe) :: pn)) (e :: es) t) (hg : Gl X x := by rfl) (hdb : (x == ("__debug__" : Str)) = false := by decide)
    (he : starEach (e :: es) X.env = (false, eval e X.env) :: starEach es X.env := by rfl) (hpl : (backTo pos (starEach es X.env)).any (·.1) = false := by rfl) :
    PE (X.suite a ((a, oe) :: pn)) (.Call (.Name x p) (e :: es) [] pos) (fun σ H Q => t σ H fun vs H1 => sp a cls d vs H1 Q) := by
  obtain ⟨f, fd, ps, F, hm, hk, hb⟩ := c.ex
  refine ⟨fun pins s σ H Q I h => wpAny_Call_Name_kw (ld_glob (X := X.suite a ((a, oe) :: pn)) I hg hm ?_ hdb)⟩
  refine PySem.W.callWith_K (h₀ := X.base) I.ok.mod.kin hk (thn (ha.run pos pins s σ H _ I h) fun us s1 ⟨vs, H1, I1, r, q⟩ => ⟨I1.kIn, ?_⟩) he hpl
  have ln : us.length = ps.length := r.length.symm.trans (F.len _ _ _ _ _ _ q)
  have b := hb s1 us I1.kIn (by simpa using ln)
  rw [List.append_nil] at b
  have P1 := I1.pin (a, oe) (List.mem_append_left _ List.mem_cons_self)
  have hpin : L2H.PinOk X.stack H1 s1 (a, oe) := ⟨P1.1, P1.2.1, fun hm => (List.mem_cons.mp (I1.stkSub a hm)).elim P1.2.2.1 P1.2.2.2.1, P1.2.2.2.2⟩
  refine wpAny_call (codeAny_mono (F.run (X.A.mark (some (.ref a))) X.stack s1 H1 ⟨us, []⟩ us vs Q (a, oe) cls d ⟨hr.r.dp, hr.r.un⟩ hz hf hpin I1.env0 b r q) fun q s2 hq => ?_)
  match q, hq with
  | .error e, hq => exact passAt (X := X.suite a ((a, oe) :: pn)) takes0 σ pins H1 s1 e s2 I1 hq
  | .ok (.ret u), hq => exact I1.after hq
  | .ok .next, hq => exact hq.elim
  | .ok .brk, hq => exact hq.elim
  | .ok .cont, hq => exact hq.elim
end
/-! asked of it where it is known -/
section
variable {X : Cx} {a : Addr} {oe : Obj} {cls : Value} {d : Option Addr}
theorem call_isH (hz : Zc cls d oe) (hf : ∃ vs, oe.data = .fields vs) (hp : (a, oe) ∈ X.pn) : CallR X (.builtin "isinstance") (rIsX X.K a cls d) := by
  intro pins s σ H xs us Q I r h
  obtain ⟨D, c, cv, b, rfl, rfl, C, hcv, e, hdd, q⟩ := h
  cases r with
  | cons rx rr =>
    cases rr with
    | cons rt rr =>
      cases rr
      cases rx
      have ec := hcv _ rt
      subst ec
      obtain ⟨hget, _⟩ := I.pin (a, oe) (List.mem_append.mpr (.inl hp))
      obtain ⟨vs, hv⟩ := hf
      have hcl : (PySem.W.clsIn X.K D).isSome = true := by
        have h := C.hd
        unfold PySem.W.hasDictIn at h
        cases q : PySem.W.clsIn X.K D with
        | some _ => rfl
        | none => rw [q] at h; cases h
      have go : ∀ {od : Option Obj}, PySem.W.InstAt s.heap a oe D od → _ := fun {od} J =>
        PySem.W.kia_one (prog := X.prog) (w := X.w) (A := X.A) (E := X.xe) (Q := EP X pins σ Q) (PySem.W.kitx_exc (od := od) hcl C.hg C.hk C.hs C.ha C.hn C.ht C.hm) I.kIn J e (fun z => nomatch z) fun tk => ⟨.bl b, H, I.kept (t' := tk) fun _ _ z => z, rfl, q⟩
      cases d with
      | none => exact go (od := none) ⟨hget, hz.1, by unfold PySem.W.notCls; rw [hv] <;> rfl, by rw [hz.2]; trivial⟩
      | some dd =>
        obtain ⟨fs, ed⟩ := hdd dd rfl
        have hx : ObjOk X.prog X.w H s.heap dd (.xd fs) := I.hok dd _ ed
        obtain ⟨mA, ⟨od, _, _, ho, _⟩, _⟩ := hx
        exact go (od := some od) ⟨hget, hz.1, by unfold PySem.W.notCls; rw [hv] <;> rfl, by rw [hz.2]; exact ho⟩
theorem pe_xh {e : Expr} {te : TE} {pos : Pos} {n : Str} (hz : Zc cls d oe) (hf : ∃ vs, oe.data = .fields vs) (hp : (a, oe) ∈ X.pn) (he : PE X e te) (hb : attributeBase e n X.env (eval e X.env) = eval e X.env := by rfl) :
    PE X (.Attribute e n pos) (tXg X.K a cls d n te) := by
  refine ⟨fun pins s σ H Q I h => ?_⟩
  refine attr_of hb (thn (he.run pins s σ H _ I h) fun u s1 hh => ?_)
  obtain ⟨x, H1, I1, rx, ex, C, dd, fs, kvs, v, ec, xc, hm, ed, ea, l, q⟩ := hh
  subst ex
  obtain rfl : u = Value.ref a := rx
  subst ec
  subst ed
  obtain ⟨ha, _⟩ := I1.pin (a, oe) (List.mem_append_left _ hp)
  obtain ⟨vs, hd⟩ := hf
  have hx : ObjOk X.prog X.w H1 s1.heap dd (.xd kvs) := I1.hok dd _ ea
  obtain ⟨mA, hns, hr⟩ := hx
  obtain ⟨od, ho, hl⟩ := lookIn_ns hns
  obtain ⟨u, hu, ru⟩ := RelO.some_of (v := v) (o := mA n) (by rw [← l]; exact hr n)
  have J : PySem.W.InstAt s1.heap a oe C (some od) := ⟨ha, hz.1, by unfold PySem.W.notCls; rw [hd] <;> rfl, by rw [hz.2]; exact ho⟩
  exact HandSPX.exc_get I1.kIn J xc.x.ga xc.x.gg xc.x.exC (PySem.W.findObj_own xc.x.hdC (xc.no n hm) rfl (by rw [hl, hu])) (handed_of ru) ⟨v, H1, I1.tok _, ru, q⟩
end
theorem hotU {k : Nat} {A : Around} (h : L2H.RoomH k A) : A.units + 64 < cLine := by have := h.un; omega
/-! xs.count(True), xs all truths -/
def rCntB (K : PySem.W.Frag) : V → List V → Hp → VK → Prop := fun x xs H Q => ∃ (p : Addr) (bs : List Bool) (k : Bool), x = .ref p ∧ xs = [.bl k] ∧ SqL K H p (bs.map V.bl) ∧ Q (.int (bs.count k : Nat)) H
theorem kcntB {X : Cx} (K : PySem.W.Frag) (hu : X.A.units + 64 < cLine) (hK : X.K = K := by rfl) : MtR X "list.count" (rCntB K) := by
  subst hK
  intro pins s σ H x xs v us Q I rx rxs h
  obtain ⟨p, bs, k, rfl, rfl, hs, q⟩ := h
  cases rx
  obtain ⟨u, rfl, ru⟩ := rxs.one
  cases (show u = Value.bool k from ru)
  obtain ⟨its, rv, ⟨o, n, ho, hc, hdn, hd⟩, hlen⟩ := I.list hs
  have dp : ∀ bs : List Bool, DpAll X.K H (bs.map V.bl) (bs.map PyData.bool) := fun bs => by
    induction bs with
    | nil => exact .nil
    | cons b bs ih => exact .cons (.bl b) ih
  obtain ⟨as, rs⟩ := Dp.readsAll I _ _ its (dp bs) rv
  have e1 : ∀ bs : List Bool, (bs.map PyData.bool).countP (fun y => PyData.eqv y (.bool k)) = bs.count k := fun bs => by
    induction bs with
    | nil => rfl
    | cons b bs ih =>
      rw [List.map_cons, List.countP_cons, List.count_cons, ih]
      congr 1
  refine PySem.SeqAt.count_list_data (vs := its.toArray) (xs := bs.map PyData.bool) (d := .bool k) (bs := []) ⟨o, ho, hc, n, hd⟩ (by simpa using rs) (Reads.bool k) ?_ ?_ ?_ ?_
  · have pl : ∀ bs : List Bool, PyData.plainAll (bs.map PyData.bool) = true := fun bs => by
      induction bs with
      | nil => simp only [List.map_nil, PyData.plainAll]
      | cons b bs ih => simp only [List.map_cons, PyData.plainAll, PyData.plain, ih, Bool.and_self]
    exact pl bs
  · simp only [PyData.plain]
  · simp only [PyData.depth]; omega
  · rw [e1]
    exact ⟨.int (bs.count k : Nat), H, I.tok _, ⟨_, rfl⟩, q⟩
/-! [..], apart from the table of modules -/
def tLstN (t : TA) : TE := fun σ H Q => t σ H fun xs H1 => xs.length ≤ sizeLine ∧ ∀ p, H1 p = none → p ≠ sysModules → Q (.ref p) (upd H1 p (.lst xs))
theorem pe_lstN {X : Cx} {es : List Expr} {pos : Pos} {t : TA} (h : PA X es t) : PE X (.List es pos) (tLstN t) := by
  refine ⟨fun pins s σ H Q I hq => ?_⟩
  refine wpAny_List_spliced (thn (h.run pos pins s σ H _ I hq) fun us s1 ⟨xs, H1, I1, r, z, q⟩ => ⟨by rw [← r.length]; exact z, ?_⟩)
  have hf : H1 s1.heap.objs.size = none := I1.hok.fresh (Nat.le_refl _)
  refine ⟨.ref s1.heap.objs.size, upd H1 s1.heap.objs.size (.lst xs), I1.laid (t' := s1.toks) (fun b u e => Heap.get?_push_of_some _ e) (Nat.le_refl _) ?_, rfl, q _ hf (Nat.ne_of_gt I1.big)⟩
  exact ⟨z, us, 0, r, Heap.get?_push_size _ rfl⟩
/-! xs == ys: other lengths, or data -/
def rEqL (K : PySem.W.Frag) : R2 := fun x y H Q => (∃ a b xs ys, x = .ref a ∧ y = .ref b ∧ SqL K H a xs ∧ SqL K H b ys ∧ xs.length ≠ ys.length ∧ Q (.bl false) H) ∨ rEqD K x y H Q
theorem keqL {X : Cx} (K : PySem.W.Frag) (hu : X.A.units + 64 < cLine) (hK : X.K = K := by rfl) : OpR X (compareOp .Eq) (rEqL K) := by
  subst hK
  intro pins s σ H x y v u Q I rx ry h
  rcases h with ⟨a, b, xs, ys, rfl, rfl, ha, hb, hl, q⟩ | h
  · cases (show v = Value.ref a from rx)
    cases (show u = Value.ref b from ry)
    obtain ⟨us, r1, p1, _⟩ := I.list ha
    obtain ⟨ws, r2, p2, _⟩ := I.list hb
    exact SeqAt.RcAt.lists_lengths p1.isList p2.isList (by simpa [← r1.length, ← r2.length] using hl) (by omega) _ _ _ _ ⟨.bl false, H, I, rfl, q⟩
  · exact op_eqD hu pins s σ H x y v u Q I rx ry h
end FG

/-! GCut: ways that meet again; ladders of new objects. -/
namespace FG
open PySem PySem.Spec L2
open PyProof.Rows hiding St
section
variable {c : TT} {t u r : TS} {te : TE} {D : Ends} {σ : St} {H : Hp}
/-- if c: t else: u; then r: c's outcome first, told once -/
theorem cut_if (Post : Bool → Hp → Prop) (h : ∀ Q : Bool → Hp → Prop, (∀ b H', Post b H' → Q b H') → c σ H Q)
    (k : ∀ b H', Post b H' → if b = true then t { D with nx := r D } σ H' else u { D with nx := r D } σ H') : tSeq (tIfS c t u) r D σ H := h _ k
/-- the same, last in its block -/
theorem cut_if1 (Post : Bool → Hp → Prop) (h : ∀ Q : Bool → Hp → Prop, (∀ b H', Post b H' → Q b H') → c σ H Q)
    (k : ∀ b H', Post b H' → if b = true then t D σ H' else u D σ H') : tIfS c t u D σ H := h _ k
/-- a statement first, its end told once -/
theorem cut_seq (Post : St → Hp → Prop) (h : ∀ nx : St → Hp → Prop, (∀ σ' H', Post σ' H' → nx σ' H') → t { D with nx := nx } σ H) (k : ∀ σ' H', Post σ' H' → r D σ' H') : tSeq t r D σ H := h _ k
theorem cut_ret (Post : V → Hp → Prop) (h : ∀ Q : VK, (∀ v H', Post v H' → Q v H') → te σ H Q) (k : ∀ v H', Post v H' → D.rt v H') : tRet te D σ H := h _ k
theorem nx_next (h : D.nx σ H) : tNext D σ H := h
theorem nx_name {i : Nat} {v : V} {Q : St → Hp → Prop} (h : Q (σ.set i (some v)) H) : gName i v σ H Q := h
end
/-! new objects, one on the other -/
def lad (H : Hp) : List (Addr × HO) → Hp
  | [] => H
  | x :: r => lad (upd H x.1 x.2) r
def ladOk (H : Hp) : List (Addr × HO) → Prop
  | [] => True
  | x :: r => H x.1 = none ∧ ladOk (upd H x.1 x.2) r
theorem lad_old : ∀ {l : List (Addr × HO)} {H : Hp} {b : Addr} {o : HO}, ladOk H l → H b = some o → lad H l b = some o
  | [], _, _, _, _, e => e
  | x :: r, H, b, o, ⟨h, hr⟩, e => lad_old (l := r) hr ((upd_ne (ne_of_none e h)).trans e)
theorem lad_at : ∀ {l : List (Addr × HO)} {H : Hp}, ladOk H l → ∀ (i : Nat) {x : Addr × HO}, l[i]? = some x → lad H l x.1 = some x.2
  | [], _, _, _, _, e => by cases e
  | x :: r, H, ⟨h, hr⟩, 0, y, e => by
    injection e with e
    subst e
    exact lad_old (l := r) hr upd_same
  | x :: r, H, ⟨h, hr⟩, i + 1, y, e => lad_at (l := r) hr i e
theorem lad_new : ∀ {l : List (Addr × HO)} {H : Hp}, ladOk H l → ∀ (i : Nat) {x : Addr × HO}, l[i]? = some x → H x.1 = none
  | [], _, _, _, _, e => by cases e
  | x :: r, H, ⟨h, hr⟩, 0, y, e => by injection e with e; subst e; exact h
  | x :: r, H, ⟨h, hr⟩, i + 1, y, e => by
    have h2 := lad_new (l := r) hr i e
    by_cases z : y.1 = x.1
    · rw [z, upd_same] at h2; cases h2
    · rwa [upd_ne z] at h2
end FG

/-! short tactics of our own, local to this text -/
local macro_rules | `(tactic| walk_at "ne") => `(tactic| first | assumption | (apply Ne.symm; assumption) | grind)
local macro_rules | `(tactic| walk_at "hl") => `(tactic| first | assumption | exact L2.upd_same | exact (L2.upd_ne (by walk_at "ne")).trans (by walk_at "hl"))
local macro_rules | `(tactic| walk_at "c") => `(tactic| first | omega | (refine ⟨?_, ?_⟩ <;> omega) | (refine ⟨?_, ?_, ?_⟩ <;> omega) | decide)
/-- one step of a reading -/
local macro_rules | `(tactic| walk_at "r1") => `(tactic| first
  | refine ⟨_, rfl, ?_⟩
  | refine ⟨_, _, rfl, rfl, ?_⟩
  | refine ⟨_, _, _, _, rfl, rfl, SqL.of (by walk_at "hl"), rfl, ?_⟩
  | refine ⟨_, _, rfl, .inl (SqL.of (by walk_at "hl")), ?_⟩
  | refine ⟨_, _, rfl, rfl, (by walk_at "c"), ?_⟩
  | refine ⟨_, _, rfl, rfl, .inl (by walk_at "c"), ?_⟩)
local macro_rules | `(tactic| walk_at "rd") => `(tactic| repeat walk_at "r1")
/-- to the next statement -/
local macro_rules | `(tactic| walk_at "nx") => `(tactic| ((try dsimp only); (first | refine FG.nx_next ?_ | refine FG.nx_name ?_ | skip); (try dsimp only)))
namespace Lw
open PySem PySem.Spec L2 FG
open PyProof.Rows hiding St
def top (i : Nat) : Stmt := PySem.Challenge.pw_framerooms_k02_values_as_texts.main.body.getD i (.Pass ⟨0, 0, 0, 0⟩)
abbrev s_is_number : Stmt := top 6
abbrev s_is_pair : Stmt := top 7
abbrev s_are_figures : Stmt := top 8
abbrev s_value_text : Stmt := top 9
abbrev s_value_of : Stmt := top 10
abbrev s__law_cell : Stmt := top 12
abbrev s__law_box : Stmt := top 13
abbrev s__law_take : Stmt := top 14
abbrev s__law_page : Stmt := top 15
abbrev s__law_number : Stmt := top 16
abbrev s__law_value : Stmt := top 17
abbrev s__law_text : Stmt := top 18
abbrev s__law_figures : Stmt := top 19
abbrev s__law_bent : Stmt := top 20
abbrev s__law_read : Stmt := top 21
abbrev s__law_due : Stmt := top 22
abbrev s__law_told : Stmt := top 23
abbrev s__law_odd : Stmt := top 24
abbrev s__law_right : Stmt := top 25
abbrev s__law_long_right : Stmt := top 26
abbrev s_law : Stmt := top 27
abbrev s_NoValue___init__ : Stmt := inClass (top 2) 0
theorem sc_is_number : FnScope ["thing"] ["thing"] (defScope s_is_number) := ⟨rfl, rfl, rfl, by decide +kernel, rfl, by decide +kernel, by decide +kernel⟩
theorem sc_is_pair : FnScope ["thing", "one"] ["thing"] (defScope s_is_pair) := ⟨rfl, rfl, rfl, by decide +kernel, rfl, by decide +kernel, by decide +kernel⟩
theorem sc_are_figures : FnScope ["text", "sign"] ["text"] (defScope s_are_figures) := ⟨rfl, rfl, rfl, by decide +kernel, rfl, by decide +kernel, by decide +kernel⟩
theorem sc_value_text : FnScope ["value"] ["value"] (defScope s_value_text) := ⟨rfl, rfl, rfl, by decide +kernel, rfl, by decide +kernel, by decide +kernel⟩
theorem sc_value_of : FnScope ["text", "parts"] ["text"] (defScope s_value_of) := ⟨rfl, rfl, rfl, by decide +kernel, rfl, by decide +kernel, by decide +kernel⟩
theorem sc__law_cell : FnScope ["_law_script", "_law_k"] ["_law_script", "_law_k"] (defScope s__law_cell) := ⟨rfl, rfl, rfl, by decide +kernel, rfl, by decide +kernel, by decide +kernel⟩
theorem sc__law_box : FnScope ["_law_cell_here"] ["_law_cell_here"] (defScope s__law_box) := ⟨rfl, rfl, rfl, by decide +kernel, rfl, by decide +kernel, by decide +kernel⟩
theorem sc__law_take : FnScope ["_law_box_here", "_law_many", "_law_digit", "_law_one", "_law_other"] ["_law_box_here", "_law_many"] (defScope s__law_take) := ⟨rfl, rfl, rfl, by decide +kernel, rfl, by decide +kernel, by decide +kernel⟩
theorem sc__law_page : FnScope ["_law_page_here"] [] (defScope s__law_page) := ⟨rfl, rfl, rfl, by decide +kernel, rfl, by decide +kernel, by decide +kernel⟩
theorem sc__law_number : FnScope ["_law_box_here", "_law_way", "_law_figures_here"] ["_law_box_here"] (defScope s__law_number) := ⟨rfl, rfl, rfl, by decide +kernel, rfl, by decide +kernel, by decide +kernel⟩
theorem sc__law_value : FnScope ["_law_box_here", "_law_way"] ["_law_box_here"] (defScope s__law_value) := ⟨rfl, rfl, rfl, by decide +kernel, rfl, by decide +kernel, by decide +kernel⟩
theorem sc__law_text : FnScope ["_law_value_here"] ["_law_value_here"] (defScope s__law_text) := ⟨rfl, rfl, rfl, by decide +kernel, rfl, by decide +kernel, by decide +kernel⟩
theorem sc__law_figures : FnScope ["_law_box_here", "_law_least", "_law_many", "_law_ahead", "_law_k"] ["_law_box_here"] (defScope s__law_figures) := ⟨rfl, rfl, rfl, by decide +kernel, rfl, by decide +kernel, by decide +kernel⟩
theorem sc__law_bent : FnScope ["_law_box_here", "_law_text_here", "_law_found", "_law_turn", "_law_way", "_law_signs", "_law_sign", "_law_at"] ["_law_box_here", "_law_text_here"] (defScope s__law_bent) := ⟨rfl, rfl, rfl, by decide +kernel, rfl, by decide +kernel, by decide +kernel⟩
theorem sc__law_read : FnScope ["_law_text_here", "_law_figures_here", "_law_sign"] ["_law_text_here"] (defScope s__law_read) := ⟨rfl, rfl, rfl, by decide +kernel, rfl, by decide +kernel, by decide +kernel⟩
theorem sc__law_due : FnScope ["_law_thing", "_law_parts", "_law_part"] ["_law_thing"] (defScope s__law_due) := ⟨rfl, rfl, rfl, by decide +kernel, rfl, by decide +kernel, by decide +kernel⟩
theorem sc__law_told : FnScope ["_law_way", "_law_thing", "_law_found", "e"] ["_law_way", "_law_thing"] (defScope s__law_told) := ⟨rfl, rfl, rfl, by decide +kernel, rfl, by decide +kernel, by decide +kernel⟩
theorem sc__law_odd : FnScope ["_law_box_here", "_law_some"] ["_law_box_here"] (defScope s__law_odd) := ⟨rfl, rfl, rfl, by decide +kernel, rfl, by decide +kernel, by decide +kernel⟩
theorem sc__law_right : FnScope ["_law_thing", "_law_due_here", "_law_found"] ["_law_thing"] (defScope s__law_right) := ⟨rfl, rfl, rfl, by decide +kernel, rfl, by decide +kernel, by decide +kernel⟩
theorem sc__law_long_right : FnScope ["_law_box_here", "_law_sign", "_law_text_here"] ["_law_box_here"] (defScope s__law_long_right) := ⟨rfl, rfl, rfl, by decide +kernel, rfl, by decide +kernel, by decide +kernel⟩
theorem sc_law : FnScope ["_law_script", "_law_k", "_law_box_here", "_law_odd_here", "_law_bent_here", "_law_value_here", "_law_text_here", "_law_turn", "_law_thing"] ["_law_script"] (defScope s_law) := ⟨rfl, rfl, rfl, by decide +kernel, rfl, by decide +kernel, by decide +kernel⟩
theorem sc_NoValue___init__ : FnScope ["self", "found"] ["self", "found"] (defScope s_NoValue___init__) := ⟨rfl, rfl, rfl, by decide +kernel, rfl, by decide +kernel, by decide +kernel⟩
structure Tx (K : PySem.W.Frag) (mg : Str → Option Value) : Prop where
  g_is_number : mg "is_number" = some (.ref (He.ga K "is_number"))
  g_is_pair : mg "is_pair" = some (.ref (He.ga K "is_pair"))
  g_are_figures : mg "are_figures" = some (.ref (He.ga K "are_figures"))
  g_value_text : mg "value_text" = some (.ref (He.ga K "value_text"))
  g_value_of : mg "value_of" = some (.ref (He.ga K "value_of"))
  g__law_cell : mg "_law_cell" = some (.ref (He.ga K "_law_cell"))
  g__law_box : mg "_law_box" = some (.ref (He.ga K "_law_box"))
  g__law_take : mg "_law_take" = some (.ref (He.ga K "_law_take"))
  g__law_page : mg "_law_page" = some (.ref (He.ga K "_law_page"))
  g__law_number : mg "_law_number" = some (.ref (He.ga K "_law_number"))
  g__law_value : mg "_law_value" = some (.ref (He.ga K "_law_value"))
  g__law_text : mg "_law_text" = some (.ref (He.ga K "_law_text"))
  g__law_figures : mg "_law_figures" = some (.ref (He.ga K "_law_figures"))
  g__law_bent : mg "_law_bent" = some (.ref (He.ga K "_law_bent"))
  g__law_read : mg "_law_read" = some (.ref (He.ga K "_law_read"))
  g__law_due : mg "_law_due" = some (.ref (He.ga K "_law_due"))
  g__law_told : mg "_law_told" = some (.ref (He.ga K "_law_told"))
  g__law_odd : mg "_law_odd" = some (.ref (He.ga K "_law_odd"))
  g__law_right : mg "_law_right" = some (.ref (He.ga K "_law_right"))
  g__law_long_right : mg "_law_long_right" = some (.ref (He.ga K "_law_long_right"))
  g_law : mg "law" = some (.ref (He.ga K "law"))
  g_NoValue : mg "NoValue" = some (.ref (He.ga K "NoValue"))
  g_RoomError : mg "RoomError" = some (.ref (He.ga K "RoomError"))
  z_len : mg "len" = none
  z_range : mg "range" = none
  z_repr : mg "repr" = none
  z_isinstance : mg "isinstance" = none
  z_int : mg "int" = none
  z_str : mg "str" = none
  z_tuple : mg "tuple" = none
  z_list : mg "list" = none
  z_bool : mg "bool" = none
  z_max : mg "max" = none
  z_min : mg "min" = none
  z_all : mg "all" = none
  z_abs : mg "abs" = none
  i_FIGURES : ∃ t, mg "FIGURES" = some (.str "0123456789" t)
  i_MOST_FIGURES : ∃ t, mg "MOST_FIGURES" = some (.int 40 t)
  x_NoValue : XC K (He.ga K "NoValue") ["found"] ∧ XI K (He.ga K "NoValue") (He.ma K (He.ga K "NoValue") "__init__")
  e_NoValue_NoValue : PySem.W.exmOne K (.ref (He.ga K "NoValue")) (.ref (He.ga K "NoValue")) = some true
  F_is_number : ∃ fd, Fun K "is_number" "is_number" s_is_number (He.ga K "is_number") fd
  F_is_pair : ∃ fd, Fun K "is_pair" "is_pair" s_is_pair (He.ga K "is_pair") fd
  F_are_figures : ∃ fd, Fun K "are_figures" "are_figures" s_are_figures (He.ga K "are_figures") fd
  F_value_text : ∃ fd, Fun K "value_text" "value_text" s_value_text (He.ga K "value_text") fd
  F_value_of : ∃ fd, Fun K "value_of" "value_of" s_value_of (He.ga K "value_of") fd
  F__law_cell : ∃ fd, Fun K "_law_cell" "_law_cell" s__law_cell (He.ga K "_law_cell") fd
  F__law_box : ∃ fd, Fun K "_law_box" "_law_box" s__law_box (He.ga K "_law_box") fd
  F__law_take : ∃ fd, Fun K "_law_take" "_law_take" s__law_take (He.ga K "_law_take") fd
  F__law_page : ∃ fd, Fun K "_law_page" "_law_page" s__law_page (He.ga K "_law_page") fd
  F__law_number : ∃ fd, Fun K "_law_number" "_law_number" s__law_number (He.ga K "_law_number") fd
  F__law_value : ∃ fd, Fun K "_law_value" "_law_value" s__law_value (He.ga K "_law_value") fd
  F__law_text : ∃ fd, Fun K "_law_text" "_law_text" s__law_text (He.ga K "_law_text") fd
  F__law_figures : ∃ fd, Fun K "_law_figures" "_law_figures" s__law_figures (He.ga K "_law_figures") fd
  F__law_bent : ∃ fd, Fun K "_law_bent" "_law_bent" s__law_bent (He.ga K "_law_bent") fd
  F__law_read : ∃ fd, Fun K "_law_read" "_law_read" s__law_read (He.ga K "_law_read") fd
  F__law_due : ∃ fd, Fun K "_law_due" "_law_due" s__law_due (He.ga K "_law_due") fd
  F__law_told : ∃ fd, Fun K "_law_told" "_law_told" s__law_told (He.ga K "_law_told") fd
  F__law_odd : ∃ fd, Fun K "_law_odd" "_law_odd" s__law_odd (He.ga K "_law_odd") fd
  F__law_right : ∃ fd, Fun K "_law_right" "_law_right" s__law_right (He.ga K "_law_right") fd
  F__law_long_right : ∃ fd, Fun K "_law_long_right" "_law_long_right" s__law_long_right (He.ga K "_law_long_right") fd
  F_law : ∃ fd, Fun K "law" "law" s_law (He.ga K "law") fd
  F_NoValue___init__ : ∃ fd, Fun K "__init__" "NoValue.__init__" s_NoValue___init__ (He.ma K (He.ga K "NoValue") "__init__") fd
def d_is_number : He.DefD := ⟨("is_number", none), "is_number", "is_number", defArgs s_is_number, defBody s_is_number, defScope s_is_number, [], []⟩
def d_is_pair : He.DefD := ⟨("is_pair", none), "is_pair", "is_pair", defArgs s_is_pair, defBody s_is_pair, defScope s_is_pair, [], []⟩
def d_are_figures : He.DefD := ⟨("are_figures", none), "are_figures", "are_figures", defArgs s_are_figures, defBody s_are_figures, defScope s_are_figures, [], []⟩
def d_value_text : He.DefD := ⟨("value_text", none), "value_text", "value_text", defArgs s_value_text, defBody s_value_text, defScope s_value_text, [], []⟩
def d_value_of : He.DefD := ⟨("value_of", none), "value_of", "value_of", defArgs s_value_of, defBody s_value_of, defScope s_value_of, [], []⟩
def d__law_cell : He.DefD := ⟨("_law_cell", none), "_law_cell", "_law_cell", defArgs s__law_cell, defBody s__law_cell, defScope s__law_cell, [], []⟩
def d__law_box : He.DefD := ⟨("_law_box", none), "_law_box", "_law_box", defArgs s__law_box, defBody s__law_box, defScope s__law_box, [], []⟩
def d__law_take : He.DefD := ⟨("_law_take", none), "_law_take", "_law_take", defArgs s__law_take, defBody s__law_take, defScope s__law_take, [], []⟩
def d__law_page : He.DefD := ⟨("_law_page", none), "_law_page", "_law_page", defArgs s__law_page, defBody s__law_page, defScope s__law_page, [], []⟩
def d__law_number : He.DefD := ⟨("_law_number", none), "_law_number", "_law_number", defArgs s__law_number, defBody s__law_number, defScope s__law_number, [], []⟩
def d__law_value : He.DefD := ⟨("_law_value", none), "_law_value", "_law_value", defArgs s__law_value, defBody s__law_value, defScope s__law_value, [], []⟩
def d__law_text : He.DefD := ⟨("_law_text", none), "_law_text", "_law_text", defArgs s__law_text, defBody s__law_text, defScope s__law_text, [], []⟩
def d__law_figures : He.DefD := ⟨("_law_figures", none), "_law_figures", "_law_figures", defArgs s__law_figures, defBody s__law_figures, defScope s__law_figures, [], []⟩
def d__law_bent : He.DefD := ⟨("_law_bent", none), "_law_bent", "_law_bent", defArgs s__law_bent, defBody s__law_bent, defScope s__law_bent, [], []⟩
def d__law_read : He.DefD := ⟨("_law_read", none), "_law_read", "_law_read", defArgs s__law_read, defBody s__law_read, defScope s__law_read, [], []⟩
def d__law_due : He.DefD := ⟨("_law_due", none), "_law_due", "_law_due", defArgs s__law_due, defBody s__law_due, defScope s__law_due, [], []⟩
def d__law_told : He.DefD := ⟨("_law_told", none), "_law_told", "_law_told", defArgs s__law_told, defBody s__law_told, defScope s__law_told, [], []⟩
def d__law_odd : He.DefD := ⟨("_law_odd", none), "_law_odd", "_law_odd", defArgs s__law_odd, defBody s__law_odd, defScope s__law_odd, [], []⟩
def d__law_right : He.DefD := ⟨("_law_right", none), "_law_right", "_law_right", defArgs s__law_right, defBody s__law_right, defScope s__law_right, [], []⟩
def d__law_long_right : He.DefD := ⟨("_law_long_right", none), "_law_long_right", "_law_long_right", defArgs s__law_long_right, defBody s__law_long_right, defScope s__law_long_right, [], []⟩
def d_law : He.DefD := ⟨("law", none), "law", "law", defArgs s_law, defBody s_law, defScope s_law, [], []⟩
def d_NoValue___init__ : He.DefD := ⟨("NoValue", some "__init__"), "__init__", "NoValue.__init__", defArgs s_NoValue___init__, defBody s_NoValue___init__, defScope s_NoValue___init__, [], []⟩
def fnL : List He.DefD := [d_is_number, d_is_pair, d_are_figures, d_value_text, d_value_of, d__law_cell, d__law_box, d__law_take, d__law_page, d__law_number, d__law_value, d__law_text, d__law_figures, d__law_bent, d__law_read, d__law_due, d__law_told, d__law_odd, d__law_right, d__law_long_right, d_law, d_NoValue___init__]
def faL : List He.Fa := [.glo "is_number", .glo "is_pair", .glo "are_figures", .glo "value_text", .glo "value_of", .glo "_law_cell", .glo "_law_box", .glo "_law_take", .glo "_law_page", .glo "_law_number", .glo "_law_value", .glo "_law_text", .glo "_law_figures", .glo "_law_bent", .glo "_law_read", .glo "_law_due", .glo "_law_told", .glo "_law_odd", .glo "_law_right", .glo "_law_long_right", .glo "law", .glo "NoValue", .glo "RoomError", .free "len", .free "range", .free "repr", .free "isinstance", .free "int", .free "str", .free "tuple", .free "list", .free "bool", .free "max", .free "min", .free "all", .free "abs", .str "FIGURES" "0123456789", .int "MOST_FIGURES" 40]
def exL : List Xa := [.oex "NoValue" ["found"], .exm "NoValue" "NoValue" true]
def exF (K : PySem.W.Frag) : Bool := exL.all fun x => x.ok K
theorem tx_of {K : PySem.W.Frag} {h : Heap} {mg : Str → Option Value} (X : K.In h) (G : h.Ns mainGlobals mg) (c : He.SaysD faL fnL K) (hx : (exL.all fun x => x.ok K) = true) : Tx K mg := ⟨
(He.glo_ok X G (c.fact 0 (f := .glo "is_number") rfl)),
  (He.glo_ok X G (c.fact 1 (f := .glo "is_pair") rfl)),
  (He.glo_ok X G (c.fact 2 (f := .glo "are_figures") rfl)),
  (He.glo_ok X G (c.fact 3 (f := .glo "value_text") rfl)),
  (He.glo_ok X G (c.fact 4 (f := .glo "value_of") rfl)),
  (He.glo_ok X G (c.fact 5 (f := .glo "_law_cell") rfl)),
  (He.glo_ok X G (c.fact 6 (f := .glo "_law_box") rfl)),
  (He.glo_ok X G (c.fact 7 (f := .glo "_law_take") rfl)),
  (He.glo_ok X G (c.fact 8 (f := .glo "_law_page") rfl)),
  (He.glo_ok X G (c.fact 9 (f := .glo "_law_number") rfl)),
  (He.glo_ok X G (c.fact 10 (f := .glo "_law_value") rfl)),
  (He.glo_ok X G (c.fact 11 (f := .glo "_law_text") rfl)),
  (He.glo_ok X G (c.fact 12 (f := .glo "_law_figures") rfl)),
  (He.glo_ok X G (c.fact 13 (f := .glo "_law_bent") rfl)),
  (He.glo_ok X G (c.fact 14 (f := .glo "_law_read") rfl)),
  (He.glo_ok X G (c.fact 15 (f := .glo "_law_due") rfl)),
  (He.glo_ok X G (c.fact 16 (f := .glo "_law_told") rfl)),
  (He.glo_ok X G (c.fact 17 (f := .glo "_law_odd") rfl)),
  (He.glo_ok X G (c.fact 18 (f := .glo "_law_right") rfl)),
  (He.glo_ok X G (c.fact 19 (f := .glo "_law_long_right") rfl)),
  (He.glo_ok X G (c.fact 20 (f := .glo "law") rfl)),
  (He.glo_ok X G (c.fact 21 (f := .glo "NoValue") rfl)),
  (He.glo_ok X G (c.fact 22 (f := .glo "RoomError") rfl)),
  (He.free_ok X G (c.fact 23 (f := .free "len") rfl)),
  (He.free_ok X G (c.fact 24 (f := .free "range") rfl)),
  (He.free_ok X G (c.fact 25 (f := .free "repr") rfl)),
  (He.free_ok X G (c.fact 26 (f := .free "isinstance") rfl)),
  (He.free_ok X G (c.fact 27 (f := .free "int") rfl)),
  (He.free_ok X G (c.fact 28 (f := .free "str") rfl)),
  (He.free_ok X G (c.fact 29 (f := .free "tuple") rfl)),
  (He.free_ok X G (c.fact 30 (f := .free "list") rfl)),
  (He.free_ok X G (c.fact 31 (f := .free "bool") rfl)),
  (He.free_ok X G (c.fact 32 (f := .free "max") rfl)),
  (He.free_ok X G (c.fact 33 (f := .free "min") rfl)),
  (He.free_ok X G (c.fact 34 (f := .free "all") rfl)),
  (He.free_ok X G (c.fact 35 (f := .free "abs") rfl)),
  (He.str_ok X G (c.fact 36 (f := .str "FIGURES" "0123456789") rfl)),
  (He.int_ok X G (c.fact 37 (f := .int "MOST_FIGURES" 40) rfl)),
  (oex_ok (c := "NoValue") (fs := ["found"]) (xa_at hx 0 rfl)),
  (exm_ok (c := "NoValue") (d := "NoValue") (xa_at hx 1 rfl)),
  (let ⟨fd, h⟩ := c.def_ 0 (d := d_is_number) rfl; ⟨fd, FG.toFun (st := s_is_number) h⟩),
  (let ⟨fd, h⟩ := c.def_ 1 (d := d_is_pair) rfl; ⟨fd, FG.toFun (st := s_is_pair) h⟩),
  (let ⟨fd, h⟩ := c.def_ 2 (d := d_are_figures) rfl; ⟨fd, FG.toFun (st := s_are_figures) h⟩),
  (let ⟨fd, h⟩ := c.def_ 3 (d := d_value_text) rfl; ⟨fd, FG.toFun (st := s_value_text) h⟩),
  (let ⟨fd, h⟩ := c.def_ 4 (d := d_value_of) rfl; ⟨fd, FG.toFun (st := s_value_of) h⟩),
  (let ⟨fd, h⟩ := c.def_ 5 (d := d__law_cell) rfl; ⟨fd, FG.toFun (st := s__law_cell) h⟩),
  (let ⟨fd, h⟩ := c.def_ 6 (d := d__law_box) rfl; ⟨fd, FG.toFun (st := s__law_box) h⟩),
  (let ⟨fd, h⟩ := c.def_ 7 (d := d__law_take) rfl; ⟨fd, FG.toFun (st := s__law_take) h⟩),
  (let ⟨fd, h⟩ := c.def_ 8 (d := d__law_page) rfl; ⟨fd, FG.toFun (st := s__law_page) h⟩),
  (let ⟨fd, h⟩ := c.def_ 9 (d := d__law_number) rfl; ⟨fd, FG.toFun (st := s__law_number) h⟩),
  (let ⟨fd, h⟩ := c.def_ 10 (d := d__law_value) rfl; ⟨fd, FG.toFun (st := s__law_value) h⟩),
  (let ⟨fd, h⟩ := c.def_ 11 (d := d__law_text) rfl; ⟨fd, FG.toFun (st := s__law_text) h⟩),
  (let ⟨fd, h⟩ := c.def_ 12 (d := d__law_figures) rfl; ⟨fd, FG.toFun (st := s__law_figures) h⟩),
  (let ⟨fd, h⟩ := c.def_ 13 (d := d__law_bent) rfl; ⟨fd, FG.toFun (st := s__law_bent) h⟩),
  (let ⟨fd, h⟩ := c.def_ 14 (d := d__law_read) rfl; ⟨fd, FG.toFun (st := s__law_read) h⟩),
  (let ⟨fd, h⟩ := c.def_ 15 (d := d__law_due) rfl; ⟨fd, FG.toFun (st := s__law_due) h⟩),
  (let ⟨fd, h⟩ := c.def_ 16 (d := d__law_told) rfl; ⟨fd, FG.toFun (st := s__law_told) h⟩),
  (let ⟨fd, h⟩ := c.def_ 17 (d := d__law_odd) rfl; ⟨fd, FG.toFun (st := s__law_odd) h⟩),
  (let ⟨fd, h⟩ := c.def_ 18 (d := d__law_right) rfl; ⟨fd, FG.toFun (st := s__law_right) h⟩),
  (let ⟨fd, h⟩ := c.def_ 19 (d := d__law_long_right) rfl; ⟨fd, FG.toFun (st := s__law_long_right) h⟩),
  (let ⟨fd, h⟩ := c.def_ 20 (d := d_law) rfl; ⟨fd, FG.toFun (st := s_law) h⟩),
  (let ⟨fd, h⟩ := c.def_ 21 (d := d_NoValue___init__) rfl; ⟨fd, FG.toFun (st := s_NoValue___init__) h⟩)⟩
end Lw
namespace Lw
open PySem PySem.Spec L2 FG
open PyProof.Rows hiding St
section
variable {P : Program} {w : World} {K : PySem.W.Frag} {mg : Str → Option Value} {base : Heap}
theorem rai_NoValue (T : Tx K mg) : Rai P w K mg base "NoValue" (He.ga K "NoValue") ["found"] := by
  refine Rai.of T.x_NoValue T.g_NoValue T.F_NoValue___init__ (fun F => F.binds (ps := ["self", "found"]) fun _ _ _ _ _ _ us hl => match us, hl with | [_, _], _ => rfl) fun F => FnG.of F sc_NoValue___init__ (fun vs H Q E h => ?_) (fun cdv A outer s H vs Q E hr h => ?_) (ps := ["self", "found"])
  · obtain ⟨a, C, ys, rfl, hl, _⟩ := h; simpa using hl
  · obtain ⟨a, C, ys, rfl, hl, xc, ea, q⟩ := h
    match ys, hl with
    | [y], _ =>
      refine ⟨_, pss_one (ps_ost (pv 0) (pv 1)), ?_⟩
      refine ⟨_, rfl, _, rfl, a, C, rfl, xc.o, xc.no _ (by decide +kernel), .inl ⟨ea, fun d hd nd => ?_⟩⟩
      exact q d _ hd nd upd_same ((upd_ne nd).trans upd_same) fun b h1 h2 => (upd_ne h1).trans (upd_ne h2)
end
end Lw
namespace Lw
open PySem PySem.Spec L2 FG
open PyProof.Rows hiding St
def names0 : List PySem.Str := ["__name__", "RoomError", "NoValue", "FIGURES", "MOST_FIGURES", "is_number", "is_pair", "are_figures", "value_text", "value_of", "_law_cell", "_law_box", "_law_take", "_law_page", "_law_number", "_law_value", "_law_text", "_law_figures", "_law_bent", "_law_read", "_law_due", "_law_told", "_law_odd", "_law_right", "_law_long_right"]
abbrev Rw : PySem.W.OpenRow := PySem.W.OpenLaw.row PySem.Challenge.rw_framerooms_k02_values_as_texts
abbrev hk : PySem.W.Hook := hookY 6 faL fnL exF
def ob (s : PySem.W.SharedT) : He.AlD × Bool := obsY 6 faL fnL exF (HandSHeadRun.getT s)
theorem ob_eq (s : PySem.W.SharedT) : ob s = hk.obs s.abs := obsY_eq (HandSHeadRun.getT_eq s)
theorem run (w : World) : HandSHeadRun.RunEq Rw (PySem.W.view Rw.prog [27]) hk ob 4500 (names0) w := by
  intro os
  kernel_rfl

end Lw
namespace Lw
open PySem PySem.Spec L2 FG
open PyProof.Rows hiding St
/-! ### the law's draws: a cell, a box, a take -/
/-- at b a box that has been asked at most n times behind its digits -/
def BoxAt (H : Hp) (b : Addr) (n : Int) : Prop := ∃ x y c : Int, H b = some (.lst [.int x, .int y, .int c]) ∧ 0 ≤ x ∧ 0 ≤ y ∧ y < 2147483629 ∧ 0 ≤ c ∧ c ≤ n
/-- all but b is as it was -/
def But (b : Addr) (H H' : Hp) : Prop := ∀ a, a ≠ b → H' a = H a
def spCell (K : PySem.W.Frag) : Sp := fun vs H Q _ => ∃ (a : Addr) (ns : List Int) (k : Nat), vs = [.ref a, .int k] ∧ SqL K H a (ns.map V.int) ∧ ∀ z : Int, Q (.int z) H
def spBox : Sp := fun vs H Q _ => ∃ z : Int, vs = [.int z] ∧ ∀ b H', H b = none → But b H H' → BoxAt H' b 0 → Q (.ref b) H'
def spTake : Sp := fun vs H Q _ => ∃ (b : Addr) (n m : Int), vs = [.ref b, .int m] ∧ BoxAt H b n ∧ n < 1000000000 ∧ 0 < m ∧ m < 2 ^ 60 ∧
  ∀ H' (d : Int), But b H H' → BoxAt H' b (n + 1) → 0 ≤ d → d < m → Q (.int d) H'
section
variable {P : Program} {w : World} {K : PySem.W.Frag} {mg : Str → Option Value} {base : Heap}
theorem ok_cell (T : Tx K mg) {fd : FuncData} (F : Fun K "_law_cell" "_law_cell" s__law_cell (He.ga K "_law_cell") fd) : FnG P w K mg base 1 (He.ga K "_law_cell") fd ["_law_script", "_law_k"] (spCell K) := by
  refine FnG.of F sc__law_cell (fun vs H Q E h => ?_) (fun cdv A outer s H vs Q E hr h => ?_)
  · obtain ⟨a, ns, k, rfl, _⟩ := h; rfl
  · obtain ⟨a, ns, k, rfl, hS, q⟩ := h
    refine ⟨_, pss_cons (ps_if (pt_cmpR op_lt (pv 1) (pe_callB (klen K) (by rfl) T.z_len PySem.boot_len (pa_cons (pv 0) (pa_nil))) (by first | exact nomark _ | rfl)) (pss_one (ps_ret (pe_ix (kixL K) (pv 0) (pv 1) (fun _ _ => rfl)))) (pss_nil))
      (pss_one (ps_ret (pe_op op_add (pe_op op_mul (pe_int) (pv 1)) (pe_int)))), ?_⟩
    refine ⟨_, rfl, _, rfl, a, _, rfl, .inl hS, _, _, rfl, rfl, _, rfl, ?_⟩
    refine ite2 (fun hlt => ?_) (fun hge => ?_)
    · have hk : k < ns.length := by simpa using hlt
      refine ⟨_, rfl, _, rfl, a, _, _, .int ns[k], rfl, rfl, hS, ?_, q _⟩
      exact atI_nat (by rw [List.getElem?_map, List.getElem?_eq_getElem hk]; rfl)
    · refine ⟨_, rfl, _, _, rfl, rfl, .inl ⟨by decide, by decide⟩, _, _, rfl, rfl, q _⟩
theorem ok_box (T : Tx K mg) {fd : FuncData} (F : Fun K "_law_box" "_law_box" s__law_box (He.ga K "_law_box") fd) : FnG P w K mg base 1 (He.ga K "_law_box") fd ["_law_cell_here"] spBox := by
  refine FnG.of F sc__law_box (fun vs H Q E h => ?_) (fun cdv A outer s H vs Q E hr h => ?_)
  · obtain ⟨z, rfl, _⟩ := h; rfl
  · obtain ⟨z, rfl, q⟩ := h
    refine ⟨_, pss_one (ps_ret (pe_lst (pa_cons (pe_callB (call_max2 rfl) (by rfl) T.z_max (by decide +kernel) (pa_cons (pe_int) (pa_cons (pe_op op_sub (pv 0) (pe_op op_pow (pe_int) (pe_int))) (pa_nil)))) (pa_cons (pe_op op_mod (pv 0) (pe_int)) (pa_cons (pe_int) (pa_nil)))))), ?_⟩
    refine ⟨_, rfl, _, _, rfl, rfl, ⟨by decide, by decide, by decide⟩, _, _, rfl, rfl, _, _, rfl, ?_⟩
    refine ⟨_, rfl, _, _, rfl, rfl, (by show (0 : Int) < 2147483629; decide), (by show 3 ≤ sizeLine; decide), fun b hb => q b _ hb (fun a ha => upd_ne ha) ⟨_, _, _, upd_same, ?_, ?_, ?_, by decide, by decide⟩⟩
    · split <;> omega
    · exact Int.emod_nonneg _ (by decide)
    · exact Int.emod_lt_of_pos _ (by decide)
theorem ok_take (T : Tx K mg) {fd : FuncData} (F : Fun K "_law_take" "_law_take" s__law_take (He.ga K "_law_take") fd) : FnG P w K mg base 1 (He.ga K "_law_take") fd ["_law_box_here", "_law_many"] spTake := by
  refine FnG.of F sc__law_take (fun vs H Q E h => ?_) (fun cdv A outer s H vs Q E hr h => ?_)
  · obtain ⟨b, n, m, rfl, _⟩ := h; rfl
  · obtain ⟨b, n, m, rfl, ⟨x, y, c, hb, hx, hy, hy2, hc, hcn⟩, hn, hm, hm2, q⟩ := h
    refine ⟨_, pss_cons (ps_if (pt_cmpR op_gt (pe_ix (kixL K) (pv 0) (pe_int) (fun _ _ => rfl)) (pe_int) (by first | exact nomark _ | rfl)) (pss_cons (ps_set (i := 2) sc__law_take.nd rfl (by first | exact Or.inl rfl | exact Or.inr rfl) (pe_op op_mod (pe_ix (kixL K) (pv 0) (pe_int) (fun _ _ => rfl)) (pv 1)))
      (pss_cons (ps_asg (pe_op op_fdivW (pe_ix (kixL K) (pv 0) (pe_int) (fun _ _ => rfl)) (pv 1)) (pg_sub (pv 0) (pe_int) set_list))
      (pss_one (ps_ret (pv 2))))) (pss_nil))
      (pss_cons (ps_asg (pe_op op_add (pe_ix (kixL K) (pv 0) (pe_int) (fun _ _ => rfl)) (pe_int)) (pg_sub (pv 0) (pe_int) set_list))
      (pss_cons (ps_set (i := 3) sc__law_take.nd rfl (by first | exact Or.inl rfl | exact Or.inr rfl) (pe_op op_mod (pe_op op_pow (pe_op op_add (pe_op op_add (pe_ix (kixL K) (pv 0) (pe_int) (fun _ _ => rfl)) (pe_op op_mul (pe_int) (pe_ix (kixL K) (pv 0) (pe_int) (fun _ _ => rfl)))) (pe_int)) (pe_int)) (pe_int)))
      (pss_cons (ps_set (i := 4) sc__law_take.nd rfl (by first | exact Or.inl rfl | exact Or.inr rfl) (pe_op op_mod (pe_op op_pow (pe_op op_add (pe_op op_add (pe_op op_fdiv (pv 3) (pe_int)) (pe_op op_mul (pe_int) (pe_ix (kixL K) (pv 0) (pe_int) (fun _ _ => rfl)))) (pe_int)) (pe_int)) (pe_int)))
      (pss_one (ps_ret (pe_op op_mod (pe_op op_add (pe_op op_fdiv (pv 3) (pe_int)) (pe_op op_mul (pe_int) (pe_op op_fdiv (pv 4) (pe_int)))) (pv 1))))))), ?_⟩
    refine ⟨_, rfl, _, _, _, _, rfl, rfl, SqL.of hb, rfl, _, _, rfl, rfl, _, rfl, ?_⟩
    refine ite2 (fun h0 => ?_) (fun h0 => ?_)
    · refine ⟨_, rfl, _, _, _, _, rfl, rfl, SqL.of hb, rfl, _, rfl, _, _, rfl, rfl, hm, ?_⟩
      refine ⟨_, rfl, _, _, _, _, rfl, rfl, SqL.of hb, rfl, _, rfl, _, _, rfl, rfl, wide_div hm (b := 60) (by omega) (by decide) (by decide), ?_⟩
      refine ⟨_, rfl, _, _, _, 0, rfl, rfl, hb, rfl, ?_⟩
      refine ⟨_, rfl, q _ _ (fun a ha => upd_ne ha) ⟨_, _, _, upd_same, Int.ediv_nonneg hx (by omega), hy, hy2, hc, by omega⟩ (Int.emod_nonneg _ (by omega)) (Int.emod_lt_of_pos _ hm)⟩
    · have e : x = 0 := by
        have z : ¬ (0 < x) := by simpa using h0
        omega
      subst e
      -- box[2] = box[2] + 1
      refine ⟨_, rfl, _, _, _, _, rfl, rfl, SqL.of hb, rfl, _, _, rfl, rfl, _, rfl, _, _, _, 2, rfl, rfl, hb, rfl, ?_⟩
      have hb2 : (upd H b (.lst [.int 0, .int y, .int (c + 1)])) b = some (.lst [.int 0, .int y, .int (c + 1)]) := upd_same
      refine ⟨_, rfl, _, _, _, _, rfl, rfl, SqL.of hb2, rfl, _, rfl, _, _, _, _, rfl, rfl, SqL.of hb2, rfl, _, _, rfl, rfl, .inl ⟨by decide, by decide⟩, _, _, rfl, rfl, _, _, rfl, rfl, _, _, rfl, rfl, ⟨by decide, by decide, ?_⟩, _, _, rfl, rfl, (by show (0 : Int) < 2147483647; decide), ?_⟩
      · show (y + 7919 * (c + 1) + 29).natAbs < 2 ^ 64
        omega
      obtain ⟨u, h1⟩ : ∃ u, u = (y + 7919 * (c + 1) + 29) ^ Int.toNat 5 % 2147483647 := ⟨_, rfl⟩
      have u0 : 0 ≤ u := h1 ▸ Int.emod_nonneg _ (by decide)
      have u1 : u < 2147483647 := h1 ▸ Int.emod_lt_of_pos _ (by decide)
      refine ⟨_, rfl, _, _, rfl, rfl, ⟨by decide, by decide⟩, _, rfl, _, _, _, _, rfl, rfl, SqL.of hb2, rfl, _, _, rfl, rfl, .inl ⟨by decide, by decide⟩, _, _, rfl, rfl, _, _, rfl, rfl, _, _, rfl, rfl, ⟨by decide, by decide, ?_⟩, _, _, rfl, rfl, (by show (0 : Int) < 2147483629; decide), ?_⟩
      · show ((y + 7919 * (c + 1) + 29) ^ Int.toNat 5 % 2147483647 / 8 + 104729 * (c + 1) + 3).natAbs < 2 ^ 64
        rw [← h1]
        omega
      refine ⟨_, rfl, _, _, rfl, rfl, ⟨by decide, by decide⟩, _, rfl, _, _, rfl, rfl, ⟨by decide, by decide⟩, _, _, rfl, rfl, .inl ⟨by decide, by decide⟩, _, _, rfl, rfl, _, rfl, _, _, rfl, rfl, hm, ?_⟩
      exact q _ _ (fun a ha => upd_ne ha) ⟨_, _, _, hb2, Int.le_refl 0, hy, hy2, by omega, by omega⟩ (Int.emod_nonneg _ (by omega)) (Int.emod_lt_of_pos _ hm)
end

end Lw
namespace Lw
open PySem PySem.Spec L2 FG
open PyProof.Rows hiding St
/-! ### frames as plain lists: hs the frames straight around, ts those that were ended to take them -/
def enc : Option Int → V
  | none => .non
  | some i => .int i
def nint (n : Nat) : V := .int (n : Int)
/-- the numbers that stand, rising -/
def stand (ts : List (Option Int)) : List Nat := (List.range ts.length).filter fun i => decide (ts[i]? = some none)
/-- the row from the ground -/
def rowW (hs : List (Option Int)) (i : Nat) : List Nat := match hs[i]? with
  | some (some j) => if j.toNat < i then rowW hs j.toNat ++ [i] else [i]
  | _ => [i]
termination_by i
/-- all that end with f, falling -/
def fin (hs ts : List (Option Int)) (f : Nat) : List Nat := (stand ts).reverse.filter fun k => decide (f ∈ rowW hs k)
/-- taken by f -/
def taken (ts : List (Option Int)) (ks : List Nat) (f : Nat) : List (Option Int) := ks.foldl (fun t k => t.set k (some (f : Int))) ts
structure Wf (hs ts : List (Option Int)) : Prop where
  len : ts.length = hs.length
  pos : 0 < hs.length
  small : hs.length ≤ 101
  root : hs[0]? = some none
  up : ∀ i, 0 < i → i < hs.length → ∃ j : Nat, hs[i]? = some (some (j : Int)) ∧ j < i
theorem wf0 : Wf [none] [none] := ⟨rfl, by decide, by decide, rfl, fun i h1 h2 => by simp at h2; omega⟩
theorem taken_len (ks : List Nat) (f : Nat) : ∀ ts, (taken ts ks f).length = ts.length := by
  induction ks with
  | nil => intro ts; rfl
  | cons k ks ih => intro ts; exact (ih _).trans (List.length_set)
theorem Wf.taken {hs ts : List (Option Int)} (w : Wf hs ts) (ks : List Nat) (f : Nat) : Wf hs (Lw.taken ts ks f) := ⟨(taken_len ks f ts).trans w.len, w.pos, w.small, w.root, w.up⟩
theorem Wf.begun {hs ts : List (Option Int)} (w : Wf hs ts) {f : Nat} (hf : f < hs.length) (h100 : hs.length ≤ 100) : Wf (hs ++ [some (f : Int)]) (ts ++ [none]) := by
  refine ⟨by simp [w.len], by simp, by simp; omega, ?_, fun i h0 h1 => ?_⟩
  · rw [List.getElem?_append_left w.pos]; exact w.root
  · by_cases h : i < hs.length
    · rw [List.getElem?_append_left h]; exact w.up i h0 h
    · have e : i = hs.length := by simp at h1; omega
      subst e
      exact ⟨f, by simp, hf⟩
theorem row_root {hs ts : List (Option Int)} (w : Wf hs ts) : rowW hs 0 = [0] := by rw [rowW, w.root]
theorem row_up {hs : List (Option Int)} {i j : Nat} (h : hs[i]? = some (some (j : Int))) (hj : j < i) : rowW hs i = rowW hs j ++ [i] := by
  rw [rowW, h]
  show (if (j : Int).toNat < i then rowW hs (j : Int).toNat ++ [i] else [i]) = _
  rw [Int.toNat_natCast, if_pos hj]
theorem row_len {hs ts : List (Option Int)} (w : Wf hs ts) : ∀ n i, i < n → i < hs.length → (rowW hs i).length ≤ i + 1 := by
  intro n
  induction n with
  | zero => intro i h; omega
  | succ n ih =>
    intro i h hi
    by_cases h0 : i = 0
    · subst h0; rw [row_root w]; simp
    · obtain ⟨j, e, hj⟩ := w.up i (by omega) hi
      rw [row_up e hj, List.length_append]
      have := ih j (by omega) (by omega)
      simp; omega
theorem row_lt {hs ts : List (Option Int)} (w : Wf hs ts) : ∀ n i, i < n → i < hs.length → ∀ k ∈ rowW hs i, k ≤ i := by
  intro n
  induction n with
  | zero => intro i h; omega
  | succ n ih =>
    intro i h hi k hk
    by_cases h0 : i = 0
    · subst h0; rw [row_root w] at hk; simp at hk; omega
    · obtain ⟨j, e, hj⟩ := w.up i (by omega) hi
      rw [row_up e hj] at hk
      rcases List.mem_append.mp hk with hk | hk
      · have := ih j (by omega) (by omega) k hk; omega
      · simp at hk; omega
theorem mem_stand {ts : List (Option Int)} {i : Nat} : i ∈ stand ts ↔ ts[i]? = some none := by
  unfold stand
  rw [List.mem_filter, List.mem_range]
  constructor
  · rintro ⟨_, h⟩; exact of_decide_eq_true h
  · intro h
    exact ⟨(List.getElem?_eq_some_iff.mp h).1, decide_eq_true h⟩
theorem stand_len (ts : List (Option Int)) : (stand ts).length ≤ ts.length := by
  unfold stand
  exact Nat.le_trans (List.length_filter_le _ _) (by simp)
theorem fin_stand {hs ts : List (Option Int)} {f k : Nat} (h : k ∈ fin hs ts f) : ts[k]? = some none := by
  unfold fin at h
  rw [List.mem_filter, List.mem_reverse] at h
  exact mem_stand.mp h.1
theorem fin_len (hs ts : List (Option Int)) (f : Nat) : (fin hs ts f).length ≤ ts.length := by
  unfold fin
  refine Nat.le_trans (List.length_filter_le _ _) ?_
  rw [List.length_reverse]; exact stand_len ts
theorem filter_more {α : Type} (p : α → Bool) {xs : List α} {i : Nat} {x : α} (h : xs[i]? = some x) : (xs.take (i + 1)).filter p = (xs.take i).filter p ++ (if p x = true then [x] else []) := by
  obtain ⟨hi, e⟩ := List.getElem?_eq_some_iff.mp h
  rw [List.take_succ_eq_append_getElem hi, List.filter_append, e]
  congr 1
  by_cases hp : p x = true
  · simp [hp]
  · simp [hp]
theorem sel_yes {α : Type} (f : α → V) (p : α → Bool) {xs : List α} {i : Nat} {x : α} (h : xs[i]? = some x) (hp : p x = true) : ((xs.take (i + 1)).filter p).map f = ((xs.take i).filter p).map f ++ [f x] := by
  rw [filter_more p h, hp]; simp
theorem sel_no {α : Type} (f : α → V) (p : α → Bool) {xs : List α} {i : Nat} {x : α} (h : xs[i]? = some x) (hp : p x = false) : ((xs.take (i + 1)).filter p).map f = ((xs.take i).filter p).map f := by
  rw [filter_more p h, hp]; simp
theorem foldl_more {α β : Type} (g : β → α → β) {xs : List α} {i : Nat} {x : α} {b : β} (h : xs[i]? = some x) : (xs.take (i + 1)).foldl g b = g ((xs.take i).foldl g b) x := by
  obtain ⟨hi, e⟩ := List.getElem?_eq_some_iff.mp h
  rw [List.take_succ_eq_append_getElem hi, List.foldl_append, e]; rfl
theorem inV_nint (f : Nat) (xs : List Nat) : inV (.int (f : Int)) (xs.map nint) = decide (f ∈ xs) := by
  unfold inV
  rw [Bool.eq_iff_iff, List.any_eq_true, decide_eq_true_eq]
  constructor
  · rintro ⟨y, hy, e⟩
    obtain ⟨n, hn, rfl⟩ := List.mem_map.mp hy
    have e2 : ((n : Int) == (f : Int)) = true := e
    have : n = f := by have := eq_of_beq e2; omega
    subst this; exact hn
  · intro h
    exact ⟨nint f, List.mem_map.mpr ⟨f, h, rfl⟩, by show ((f : Int) == (f : Int)) = true; simp⟩
theorem flat_nint (xs : List Nat) : (xs.map nint).all flatV = true := by
  rw [List.all_eq_true]; rintro y hy; obtain ⟨n, _, rfl⟩ := List.mem_map.mp hy; rfl
theorem dp_enc (K : PySem.W.Frag) (H : Hp) : ∀ xs : List (Option Int), DpAll K H (xs.map enc) (xs.map fun o => match o with | none => PyData.none | some i => PyData.int i)
  | [] => .nil
  | none :: xs => .cons .non (dp_enc K H xs)
  | some i :: xs => .cons (.int i) (dp_enc K H xs)
theorem dp_nint (K : PySem.W.Frag) (H : Hp) : ∀ xs : List Nat, DpAll K H (xs.map nint) (xs.map fun n : Nat => PyData.int (n : Int))
  | [] => .nil
  | n :: xs => .cons (.int (n : Int)) (dp_nint K H xs)
/-- all but the objects of S is as it was -/
def Kp (S : List Addr) (H H' : Hp) : Prop := ∀ b o, H b = some o → b ∉ S → H' b = some o
theorem Kp.refl {S : List Addr} {H : Hp} : Kp S H H := fun _ _ e _ => e
theorem Kp.trans {S : List Addr} {H H1 H2 : Hp} (a : Kp S H H1) (b : Kp S H1 H2) : Kp S H H2 := fun c o e h => b c o (a c o e h) h
theorem Kp.at {S : List Addr} {H H' : Hp} (k : Kp S H H') {b : Addr} {o : HO} (e : H b = some o) (h : b ∉ S) : H' b = some o := k b o e h
theorem Kp.free {H H' : Hp} (k : Kp [] H H') {b : Addr} (e : H' b = none) : H b = none := by
  cases q : H b with
  | none => rfl
  | some o => rw [k b o q (by simp)] at e; cases e

end Lw
namespace Lw
open PySem PySem.Spec L2 FG
open PyProof.Rows hiding St
/-! what is kept -/
theorem But.kp {b : Addr} {H H' : Hp} (k : But b H H') : Kp [b] H H' := fun a o e h => (k a (by simpa using h)).trans e
theorem Kp.mono {S S' : List Addr} {H H' : Hp} (k : Kp S H H') (h : ∀ a ∈ S, a ∈ S') : Kp S' H H' := fun b o e n => k b o e fun z => n (h b z)
theorem BoxAt.kp {S : List Addr} {H H' : Hp} {b : Addr} {n : Int} (x : BoxAt H b n) (k : Kp S H H') (h : b ∉ S) : BoxAt H' b n := by
  obtain ⟨x, y, c, e, r⟩ := x
  exact ⟨x, y, c, k _ _ e h, r⟩
theorem BoxAt.more {H : Hp} {b : Addr} {n m : Int} (x : BoxAt H b n) (h : n ≤ m) : BoxAt H b m := by
  obtain ⟨x, y, c, e, a1, a2, a3, a4, a5⟩ := x
  exact ⟨x, y, c, e, a1, a2, a3, a4, by omega⟩
theorem Kp.new {S : List Addr} {H H1 : Hp} {a : Addr} {o : HO} (k : Kp S H H1) (h : H1 a = none) : Kp S H (L2.upd H1 a o) := fun b ob e n => (upd_ne (ne_of_none (k b ob e n) h)).trans (k b ob e n)
theorem BoxAt.new {H : Hp} {b a : Addr} {n : Int} {o : HO} (x : BoxAt H b n) (h : H a = none) : BoxAt (L2.upd H a o) b n := x.kp (S := []) (Kp.refl.new h) (by simp)
/-- the script: locked, or an object of the module -/
def Scr (K : PySem.W.Frag) (H : Hp) (a : Addr) (ns : List Int) : Prop := (∃ o, H a = some (.frz o (.lst (ns.map V.int)))) ∨ ∀ H', SqL K H' a (ns.map V.int)
theorem Scr.sq {K : PySem.W.Frag} {H : Hp} {a : Addr} {ns : List Int} (x : Scr K H a ns) : SqL K H a (ns.map V.int) := by
  rcases x with ⟨o, z⟩ | z
  · exact .inl (.inr ⟨o, z⟩)
  · exact z H
theorem Scr.of {K : PySem.W.Frag} {H : Hp} {a : Addr} {ns : List Int} (hO : Only H) (h : SqL K H a (ns.map V.int)) : Scr K H a ns := by
  rcases h with (z | ⟨o, z⟩) | z
  · rcases hO a with y | ⟨o, xs, y⟩
    · rw [y] at z; cases z
    · rw [y] at z; cases z
  · exact .inl ⟨o, z⟩
  · exact .inr fun H' => .inr z
theorem Scr.kp {K : PySem.W.Frag} {S : List Addr} {H H' : Hp} {a : Addr} {ns : List Int} (x : Scr K H a ns) (k : Kp S H H') (hS : ∀ b ∈ S, ∀ o u, H b ≠ some (.frz o u)) : Scr K H' a ns := by
  rcases x with ⟨o, z⟩ | z
  · exact .inl ⟨o, k a _ z fun c => hS a c _ _ z⟩
  · exact .inr z
theorem Scr.kp0 {K : PySem.W.Frag} {H H' : Hp} {a : Addr} {ns : List Int} (x : Scr K H a ns) (k : Kp [] H H') : Scr K H' a ns := x.kp k fun _ z => by cases z
theorem BoxAt.nf {H : Hp} {b : Addr} {n : Int} (x : BoxAt H b n) : ∀ c ∈ [b], ∀ o u, H c ≠ some (.frz o u) := by
  obtain ⟨_, _, _, e, _⟩ := x
  intro c hc o u h; rw [List.mem_singleton] at hc; subst hc; rw [e] at h; cases h
theorem BoxAt.ne {H : Hp} {b c : Addr} {n : Int} (x : BoxAt H b n) (hc : H c = none) : c ≠ b := by
  obtain ⟨_, _, _, e, _⟩ := x; exact (ne_of_none e hc).symm

end Lw
namespace Lw
open PySem PySem.Spec L2 FG
open PyProof.Rows hiding St
/-! ### things of any kind; whole numbers, names, pairs -/
theorem iteB {b : Bool} {A B : Prop} (h1 : b = true → A) (h2 : b = false → B) : if b = true then A else B := by
  cases b with
  | true => exact iteT (h1 rfl)
  | false => exact iteF (h2 rfl)
inductive Sh (H : Hp) : V → Prop
  | non : Sh H .non
  | bl (b : Bool) : Sh H (.bl b)
  | int (z : Int) : Sh H (.int z)
  | str (z : Str) (h : z.length ≤ sizeLine) : Sh H (.str z)
  | lst {a : Addr} {xs : List V} (e : H a = some (.lst xs)) : Sh H (.ref a)
  | tup {a : Addr} {xs : List V} (e : H a = some (.tup xs)) : Sh H (.ref a)
  | dK {a : Addr} {kvs : List (Key × V)} (e : H a = some (.dK kvs)) : Sh H (.ref a)
def isIntV : V → Bool
  | .int _ | .bl _ => true
  | _ => false
def isBlV : V → Bool
  | .bl _ => true
  | _ => false
def numV : V → Bool
  | .int _ => true
  | _ => false
def strV : V → Option Str
  | .str z => some z
  | _ => none
def tupV (H : Hp) : V → Option (List V)
  | .ref a => match H a with
    | some (.tup xs) => some xs
    | _ => none
  | _ => none
theorem Sh.kp {H H' : Hp} {v : V} (s : Sh H v) (k : Kp [] H H') : Sh H' v := by
  cases s with
  | non => exact .non
  | bl b => exact .bl b
  | int z => exact .int z
  | str z h => exact .str z h
  | lst e => exact .lst (k _ _ e (by simp))
  | tup e => exact .tup (k _ _ e (by simp))
  | dK e => exact .dK (k _ _ e (by simp))
theorem tupV_some {H : Hp} {v : V} {xs : List V} (h : tupV H v = some xs) : ∃ a, v = .ref a ∧ H a = some (.tup xs) := by
  unfold tupV at h
  split at h
  · rename_i a
    split at h
    · rename_i ys e
      cases h
      exact ⟨a, rfl, e⟩
    · cases h
  · cases h
theorem tupV_ref {H : Hp} {a : Addr} {xs : List V} (h : H a = some (.tup xs)) : tupV H (.ref a) = some xs := by
  simp only [tupV, h]
theorem Sh.tupKp {H H' : Hp} {v : V} (s : Sh H v) (k : Kp [] H H') : tupV H' v = tupV H v := by
  cases s with
  | non => rfl
  | bl b => rfl
  | int z => rfl
  | str z h => rfl
  | lst e => simp only [tupV, e, k _ _ e (by simp)]
  | tup e => simp only [tupV, e, k _ _ e (by simp)]
  | dK e => simp only [tupV, e, k _ _ e (by simp)]
theorem Sh.ty {H : Hp} {v : V} (K : PySem.W.Frag) (s : Sh H v) : ∃ t : String, TyX K H v (.type t) ∧ kitB t "int" = some (isIntV v) ∧ kitB t "bool" = some (isBlV v) ∧ kitB t "str" = some (strV v).isSome ∧ kitB t "tuple" = some (tupV H v).isSome := by
  cases s with
  | non => exact ⟨_, .base .non, by decide +kernel, by decide +kernel, by decide +kernel, by show _ = some false; decide +kernel⟩
  | bl b => exact ⟨_, .base (.bl b), by show _ = some true; decide +kernel, by show _ = some true; decide +kernel, by show _ = some false; decide +kernel, by show _ = some false; decide +kernel⟩
  | int z => exact ⟨_, .base (.int z), by show _ = some true; decide +kernel, by show _ = some false; decide +kernel, by show _ = some false; decide +kernel, by show _ = some false; decide +kernel⟩
  | str z h => exact ⟨_, .base (.str z), by show _ = some false; decide +kernel, by show _ = some false; decide +kernel, by show _ = some true; decide +kernel, by show _ = some false; decide +kernel⟩
  | lst e => exact ⟨_, .base (.lst e), by show _ = some false; decide +kernel, by show _ = some false; decide +kernel, by show _ = some false; decide +kernel, by simp only [tupV, e]; decide +kernel⟩
  | tup e => exact ⟨_, .base (.tup e), by show _ = some false; decide +kernel, by show _ = some false; decide +kernel, by show _ = some false; decide +kernel, by simp only [tupV, e]; show _ = some true; decide +kernel⟩
  | dK e => exact ⟨_, .base (.dK e), by show _ = some false; decide +kernel, by show _ = some false; decide +kernel, by show _ = some false; decide +kernel, by simp only [tupV, e]; decide +kernel⟩
theorem isInt_num (v : V) (h : isIntV v = true) : (!isBlV v) = numV v := by
  cases v <;> first | rfl | cases h
theorem num_int (v : V) (h : isIntV v = false) : numV v = false := by
  cases v <;> first | rfl | cases h
theorem num_some {v : V} (h : numV v = true) : ∃ z, v = .int z := by
  cases v with
  | int z => exact ⟨z, rfl⟩
  | _ => cases h
theorem strV_some {v : V} {z : Str} (h : strV v = some z) : v = .str z := by
  cases v with
  | str y => cases h; rfl
  | _ => cases h
/-- low to high -/
def wholeV (v : V) (a b : Int) : Bool := match v with
  | .int z => decide (a ≤ z ∧ z ≤ b)
  | _ => false
theorem whole_num {v : V} {a b : Int} (h : numV v = false) : wholeV v a b = false := by
  cases v with
  | int z => cases h
  | _ => rfl
def letter (c : Nat) : Bool := decide (97 ≤ c ∧ c ≤ 122)
def nameS (z : Str) : Bool := decide (1 ≤ z.length ∧ z.length ≤ 6) && z.cps.toList.all letter
def nameV (v : V) : Bool := match strV v with
  | some z => nameS z
  | none => false
def posV : V → Bool
  | .int z => decide (0 ≤ z)
  | _ => false
def pairL (xs : List V) : Bool := decide (xs.length = 2) && xs.all posV
def pairV (H : Hp) (v : V) : Bool := match tupV H v with
  | some xs => pairL xs
  | none => false
/-- a thing, and in a tuple such things -/
structure Th (H : Hp) (v : V) : Prop where
  sh : Sh H v
  el : ∀ xs, tupV H v = some xs → xs.length ≤ 100 ∧ ∀ x ∈ xs, Sh H x
theorem Th.kp {H H' : Hp} {v : V} (s : Th H v) (k : Kp [] H H') : Th H' v := ⟨s.sh.kp k, fun xs h => by
  rw [s.sh.tupKp k] at h
  exact ⟨(s.el xs h).1, fun x hx => ((s.el xs h).2 x hx).kp k⟩⟩
theorem Th.pairKp {H H' : Hp} {v : V} (s : Th H v) (k : Kp [] H H') : pairV H' v = pairV H v := by
  unfold pairV; rw [s.sh.tupKp k]
def spNumG : Sp := fun vs H Q _ => ∃ v, vs = [v] ∧ Sh H v ∧ Q (.bl (numV v)) H
def spWholeG : Sp := fun vs H Q _ => ∃ v a b, vs = [v, .int a, .int b] ∧ Sh H v ∧ Q (.bl (wholeV v a b)) H
def spName : Sp := fun vs H Q _ => ∃ v, vs = [v] ∧ Sh H v ∧ ∀ H', Kp [] H H' → Q (.bl (nameV v)) H'
def spPair : Sp := fun vs H Q _ => ∃ v, vs = [v] ∧ Th H v ∧ ∀ H', Kp [] H H' → Q (.bl (pairV H v)) H'
theorem mem_letters (c : Nat) : decide (c ∈ ("abcdefghijklmnopqrstuvwxyz" : Str).cps.toList) = letter c := by
  have e : ("abcdefghijklmnopqrstuvwxyz" : Str).cps.toList = (List.range 26).map (· + 97) := by decide +kernel
  unfold letter
  rw [e, decide_eq_decide, List.mem_map]
  constructor
  · rintro ⟨x, hx, rfl⟩
    have := List.mem_range.mp hx
    omega
  · rintro ⟨h1, h2⟩
    exact ⟨c - 97, List.mem_range.mpr (by omega), by omega⟩
theorem all_take {α : Type} (p : α → Bool) (xs : List α) : ((xs.map p).all id) = xs.all p := by
  induction xs with
  | nil => rfl
  | cons x xs ih => simp [ih]
theorem map_take {α β : Type} (f : α → β) {xs : List α} {i : Nat} {x : α} (h : xs[i]? = some x) : (xs.take (i + 1)).map f = (xs.take i).map f ++ [f x] := by
  obtain ⟨hi, e⟩ := List.getElem?_eq_some_iff.mp h
  rw [List.take_succ_eq_append_getElem hi, List.map_append, e]; rfl
section
variable {P : Program} {w : World} {K : PySem.W.Frag} {mg : Str → Option Value} {base : Heap}
theorem ok_number (T : Tx K mg) {fd : FuncData} (F : Fun K "is_number" "is_number" s_is_number (He.ga K "is_number") fd) : FnG P w K mg base 1 (He.ga K "is_number") fd ["thing"] spNumG := by
  refine FnG.of F sc_is_number (fun vs H Q E h => ?_) (fun cdv A outer s H vs Q E hr h => ?_)
  · obtain ⟨v, rfl, _⟩ := h; rfl
  · obtain ⟨v, rfl, sh, q⟩ := h
    obtain ⟨t, ht, hi, hb, _, _⟩ := sh.ty K
    refine ⟨_, pss_one (ps_ret (pe_and (pe_callB (kisi K) (by rfl) T.z_isinstance (by decide +kernel) (pa_cons (pv 0) (pa_cons (pe_bltn (v := .ty "int") (by rfl) T.z_int (by decide +kernel) rfl) (pa_nil)))) (pe_one (pe_not (pe_callB (kisi K) (by rfl) T.z_isinstance (by decide +kernel) (pa_cons (pv 0) (pa_cons (pe_bltn (v := .ty "bool") (by rfl) T.z_bool (by decide +kernel) rfl) (pa_nil)))))))), ?_⟩
    refine ⟨_, rfl, _, _, _, _, _, rfl, .ty _, ht, kit_ty hi, _, rfl, ?_⟩
    refine iteB (fun h1 => ?_) (fun h1 => ?_)
    · refine ⟨_, rfl, _, _, _, _, _, rfl, .ty _, ht, kit_ty hb, _, rfl, ?_⟩
      rw [← isInt_num v h1] at q; exact q
    · rw [num_int v h1] at q; exact q
theorem ok_pair (T : Tx K mg) {fd : FuncData} (F : Fun K "is_pair" "is_pair" s_is_pair (He.ga K "is_pair") fd) (c_is_number : Cal P w K mg base 1 "is_number" spNumG) : FnG P w K mg base 2 (He.ga K "is_pair") fd ["thing"] spPair := by
  refine FnG.of F sc_is_pair (fun vs H Q E h => ?_) (fun cdv A outer s H vs Q E hr h => ?_)
  · obtain ⟨v, rfl, _⟩ := h; rfl
  · obtain ⟨v, rfl, ⟨sh, el⟩, q⟩ := h
    obtain ⟨t, ht, _, _, _, hs⟩ := sh.ty K
    refine ⟨_, pss_cons (ps_if (PW.pt (pw_or (pt_not (pt_val (pe_callB (kisi K) (by rfl) T.z_isinstance (by decide +kernel) (pa_cons (pv 0) (pa_cons (pe_bltn (v := .ty "tuple") (by rfl) T.z_tuple (by decide +kernel) rfl) (pa_nil)))))) (pw_or1 (pt_cmpR op_ne (pe_callB (klen K) (by rfl) T.z_len PySem.boot_len (pa_cons (pv 0) (pa_nil))) (pe_int) (by first | exact nomark _ | rfl))))) (pss_one (ps_ret (pe_bl))) (pss_nil))
      (pss_one (ps_ret (pe_callB (kall K) (by rfl) T.z_all (by decide +kernel) (pa_cons (pe_lc (own := [("one", 1)]) (g := gName 1) (tt := tYes) rfl sc_is_pair.nd (kiT K (pv 0)) (blkOk_by (own := [("one", 1)]) (N := ["thing", "one"]) (sc := defScope s_is_pair) (by decide +kernel)) (fun _ _ _ _ _ => pg_name (i := 1) sc_is_pair.nd rfl (by first | exact Or.inl rfl | exact Or.inr rfl)) (fun _ _ _ _ _ => by exact pts_nil) (fun _ _ _ _ _ => by exact pe_and (gc c_is_number (hr.mono (by decide)) takes0 (pa_cons (pv 1) (pa_nil))) (pe_one (pe_cmpR op_ge (pv 1) (pe_int) (by first | exact nomark _ | rfl))))) (pa_nil))))), ?_⟩
    cases hv : tupV H v with
    | none =>
      rw [hv] at hs
      have e : pairV H v = false := by unfold pairV; rw [hv]
      rw [e] at q
      exact ⟨_, rfl, _, _, _, _, false, rfl, .ty _, ht, kit_ty hs, false, rfl, iteT (iteT (q H Kp.refl))⟩
    | some xs =>
      rw [hv] at hs
      obtain ⟨a, rfl, ea⟩ := tupV_some hv
      obtain ⟨hl, hx⟩ := el xs hv
      have e : pairV H (.ref a) = pairL xs := by unfold pairV; rw [hv]
      rw [e] at q
      refine ⟨_, rfl, _, _, _, _, true, rfl, .ty _, ht, kit_ty hs, true, rfl, iteF ⟨_, rfl, a, xs, rfl, .inr (SqT.of ea), rfl, _, rfl, ?_⟩⟩
      by_cases h2 : xs.length = 2
      · have z : decide (V.int xs.length = V.int 2) = true := decide_eq_true (by rw [h2]; rfl)
        rw [z]
        refine iteF ⟨_, rfl, a, rfl, ⟨xs, SqT.of ea⟩, fun D hD => ?_⟩
        have neD : ∀ b o, H b = some o → b ≠ D := fun b o eb => ne_of_none eb hD
        refine lc_tup (K := K) (a := a) (xs := xs) (fun i H2 => Kp [] H H2 ∧ H2 D = some (.lst (((xs.take i).map posV).map V.bl))) ⟨fun b o eb _ => (upd_ne (neD b o eb)).trans eb, upd_same⟩ (fun i H2 _ ⟨k2, _⟩ => SqT.of (k2 _ _ ea (by simp))) ?_ ?_
        · rintro i x H2 hx2 ⟨k2, eD⟩
          have hm : x ∈ xs := List.mem_of_getElem? hx2
          have fin : ∀ b, b = posV x → ∃ acc, H2 D = some (.lst acc) ∧ acc.length < sizeLine ∧ Kp [] H (upd H2 D (.lst (acc ++ [V.bl b]))) ∧ upd H2 D (.lst (acc ++ [V.bl b])) D = some (.lst (((xs.take (i + 1)).map posV).map V.bl)) := by
            rintro b rfl
            refine ⟨_, eD, ?_, fun b o eb _ => (upd_ne (neD b o eb)).trans (k2 b o eb (by simp)), ?_⟩
            · have h9 : (List.take i xs).length ≤ (xs).length := by rw [List.length_take]; omega
              rw [List.length_map, List.length_map]
              exact Nat.lt_of_le_of_lt (m := 2) (by omega) (by decide)
            · rw [upd_same, map_take posV hx2, List.map_append]; rfl
          refine ⟨rfl, _, rfl, x, rfl, (hx x hm).kp k2, _, rfl, ?_⟩
          refine iteB (fun h1 => ?_) (fun h1 => ?_)
          · obtain ⟨z, rfl⟩ := num_some h1
            exact ⟨_, rfl, _, _, rfl, rfl, fin _ rfl⟩
          · exact fin _ (by cases x with | int z => cases h1 | _ => rfl)
        · rintro H2 ⟨k2, eD⟩
          rw [List.take_length] at eD
          refine ⟨D, xs.map posV, rfl, SqL.of eD, ?_⟩
          rw [all_take]
          have e2 : pairL xs = xs.all posV := by unfold pairL; rw [decide_eq_true h2, Bool.true_and]
          rw [← e2]; exact q H2 k2
      · have z : decide (V.int xs.length = V.int 2) = false := decide_eq_false (fun c => h2 (by injection c with c; omega))
        rw [z]
        have e2 : pairL xs = false := by unfold pairL; rw [decide_eq_false h2, Bool.false_and]
        rw [e2] at q
        exact iteT (q H Kp.refl)
end

end Lw
namespace Lw
open PySem PySem.Spec L2 FG
open PyProof.Rows hiding St
/-! ### values as texts, plainly -/
abbrev sl (z : Str) : List Nat := z.cps.toList
def dig (c : Nat) : Bool := decide (48 ≤ c ∧ c ≤ 57)
/-- one to forty figures without a nought ahead -/
def figs (l : List Nat) : Bool := decide (1 ≤ l.length ∧ l.length ≤ 40) && (l.all dig && (decide (l = [48]) || decide (l.head? ≠ some 48)))
def dval (l : List Nat) : Int := ((PySem.NumText.digitsVal l : Nat) : Int)
/-- the number that a text writes -/
def readL (l : List Nat) : Option Int :=
  if l.head? = some 45 then (if figs l.tail = true ∧ l.tail ≠ [48] then some (-(dval l.tail)) else none) else if figs l = true then some (dval l) else none
inductive Wv where
  | non
  | int (i : Int)
  | pair (a b : Int)
def pairOf (ps : List Str) : Option Wv := match ps with
  | [p, q] => if figs (sl p) = true ∧ figs (sl q) = true then some (.pair (dval (sl p)) (dval (sl q))) else none
  | _ => none
def colon : Str := ":"
def valOf (z : Str) : Option Wv := if z = "none" then some .non else match pairOf (Txt.split z colon) with
  | some w => some w
  | none => (readL (sl z)).map .int
/-- the law's own reading -/
def dueP (z : Str) (ps : List Str) : Option Wv := match ps with
  | [p] => (readL (sl p)).map .int
  | [p, q] => match readL (sl p), readL (sl q) with
    | some a, some b => if 45 ∈ sl z then none else some (.pair a b)
    | _, _ => none
  | _ => none
def dueOf (z : Str) : Option Wv := if z = "none" then some .non else dueP z (Txt.split z colon)
def intT (i : Int) : Str := Str.ofString (toString i)
def textOf : Wv → Str
  | .non => "none"
  | .int i => intT i
  | .pair a b => intT a ++ colon ++ intT b
theorem figs_dig {l : List Nat} (h : figs l = true) : ∀ c ∈ l, 48 ≤ c ∧ c ≤ 57 := by
  unfold figs at h
  rw [Bool.and_eq_true, Bool.and_eq_true] at h
  intro c hc
  exact of_decide_eq_true (List.all_eq_true.mp h.2.1 c hc)
theorem figs_len {l : List Nat} (h : figs l = true) : 1 ≤ l.length ∧ l.length ≤ 40 := by
  unfold figs at h
  rw [Bool.and_eq_true] at h
  exact of_decide_eq_true h.1
theorem figs_ahead {l : List Nat} (h : figs l = true) : l = [48] ∨ l.head? ≠ some 48 := by
  unfold figs at h
  rw [Bool.and_eq_true, Bool.and_eq_true, Bool.or_eq_true] at h
  rcases h.2.2 with h | h
  · exact .inl (of_decide_eq_true h)
  · exact .inr (of_decide_eq_true h)
theorem figs_head {l : List Nat} (h : figs l = true) : l.head? ≠ some 45 := by
  intro e
  have h1 := figs_dig h
  cases l with
  | nil => cases e
  | cons c r =>
    injection e with e
    subst e
    have := h1 45 (by simp)
    omega
theorem read_figs {l : List Nat} (h : figs l = true) : readL l = some (dval l) := by
  unfold readL
  rw [if_neg (figs_head h), if_pos h]
theorem read_plain {l : List Nat} {a : Int} (h : readL l = some a) (h2 : 45 ∉ l) : figs l = true ∧ a = dval l := by
  unfold readL at h
  have h3 : l.head? ≠ some 45 := by
    intro e
    cases l with
    | nil => cases e
    | cons c r => injection e with e; subst e; simp at h2
  rw [if_neg h3] at h
  split at h
  · injection h with h; exact ⟨by assumption, h.symm⟩
  · cases h
theorem read_colon {l : List Nat} (h : 58 ∈ l) : readL l = none := by
  unfold readL
  split
  · rename_i e
    have : figs l.tail = false := by
      cases hf : figs l.tail with
      | false => rfl
      | true =>
        cases l with
        | nil => cases e
        | cons c r =>
          injection e with e
          subst e
          have hm : 58 ∈ r := by simpa using h
          have := figs_dig hf 58 hm
          omega
    rw [if_neg (by rw [this]; simp)]
  · have : figs l = false := by
      cases hf : figs l with
      | false => rfl
      | true => have := figs_dig hf 58 h; omega
    rw [if_neg (by rw [this]; simp)]
theorem colon_sl : sl colon = [58] := by decide +kernel
theorem spl_whole : ∀ (n : Nat) (l : List Nat), l.length ≤ n → ∃ ps : List (List Nat), ps ≠ [] ∧ (∀ p ∈ ps, 58 ∉ p) ∧ l = TL.joinL [58] ps := by
  intro n
  induction n with
  | zero =>
    intro l hl
    have : l = [] := List.eq_nil_of_length_eq_zero (by omega)
    subst this
    exact ⟨[[]], by simp, by simp, rfl⟩
  | succ n ih =>
    intro l hl
    by_cases h : 58 ∈ l
    · obtain ⟨p, r, e, hp⟩ := List.append_of_mem h |> fun ⟨s, t, e⟩ => (by
        clear e
        have : ∀ l : List Nat, 58 ∈ l → ∃ p r, l = p ++ 58 :: r ∧ 58 ∉ p := by
          intro l
          induction l with
          | nil => intro h; cases h
          | cons c l ih =>
            intro h
            by_cases hc : c = 58
            · exact ⟨[], l, by rw [hc]; rfl, by simp⟩
            · have : 58 ∈ l := by
                rcases List.mem_cons.mp h with z | z
                · exact absurd z.symm hc
                · exact z
              obtain ⟨p, r, e, hp⟩ := ih this
              refine ⟨c :: p, r, by rw [e]; rfl, ?_⟩
              intro z
              rcases List.mem_cons.mp z with z | z
              · exact hc z.symm
              · exact hp z
        exact this l h : ∃ p r, l = p ++ 58 :: r ∧ 58 ∉ p)
      have hr : r.length ≤ n := by
        have := congrArg List.length e
        simp at this
        omega
      obtain ⟨ps, hne, hps, er⟩ := ih r hr
      refine ⟨p :: ps, by simp, ?_, ?_⟩
      · intro q hq
        rcases List.mem_cons.mp hq with rfl | hq
        · exact hp
        · exact hps q hq
      · cases ps with
        | nil => exact absurd rfl hne
        | cons q rest =>
          show l = p ++ ([58] ++ TL.joinL [58] (q :: rest))
          rw [← er, e]; rfl
    · exact ⟨[l], by simp, by simpa using h, rfl⟩
theorem split_facts (z : Str) : Txt.split z colon ≠ [] ∧ (∀ p ∈ Txt.split z colon, 58 ∉ sl p) ∧ sl z = TL.joinL [58] ((Txt.split z colon).map sl) := by
  have e : (Txt.split z colon).map sl = TL.spl [58] 0 [] (sl z) := by
    have := TL.split_spl z colon (by show sl colon ≠ []; rw [colon_sl]; simp) (TL.kind_ok (by decide +kernel))
    rw [show TL.tl colon = [58] from colon_sl] at this
    exact this
  obtain ⟨ps, hne, hp, ez⟩ := spl_whole _ (sl z) (Nat.le_refl _)
  rw [ez, TL.spl_join hne hp] at e
  refine ⟨fun h => hne (by rw [← e, h]; rfl), fun p hm => hp _ (by rw [← e]; exact List.mem_map.mpr ⟨p, hm, rfl⟩), by rw [e]; exact ez⟩
theorem due_val (z : Str) : dueOf z = valOf z := by
  unfold dueOf valOf
  split
  · rfl
  · obtain ⟨hne, hp, ez⟩ := split_facts z
    match hs : Txt.split z colon with
    | [] => exact absurd hs hne
    | [p] =>
      rw [hs] at ez
      have : z = p := TL.ext_tl ez
      subst this
      rfl
    | [p, q] =>
      rw [hs] at ez hp
      have ez2 : sl z = sl p ++ ([58] ++ sl q) := ez
      have hz : readL (sl z) = none := read_colon (by rw [ez2]; simp)
      show dueP z [p, q] = match pairOf [p, q] with | some w => some w | none => (readL (sl z)).map .int
      by_cases hf : figs (sl p) = true ∧ figs (sl q) = true
      · have h45 : 45 ∉ sl z := by
          rw [ez2]
          intro hm
          rcases List.mem_append.mp hm with hm | hm
          · have := figs_dig hf.1 _ hm; omega
          · rcases List.mem_append.mp hm with hm | hm
            · simp at hm
            · have := figs_dig hf.2 _ hm; omega
        unfold pairOf
        simp only [if_pos hf]
        unfold dueP
        simp only [read_figs hf.1, read_figs hf.2, if_neg h45]
      · unfold pairOf
        simp only [if_neg hf, hz, Option.map_none]
        unfold dueP
        cases h1 : readL (sl p) with
        | none => simp only [h1]
        | some a =>
          cases h2 : readL (sl q) with
          | none => simp only [h1, h2]
          | some b =>
            by_cases h45 : 45 ∈ sl z
            · simp only [h1, h2, if_pos h45]
            · exfalso
              refine hf ⟨(read_plain h1 fun h => h45 ?_).1, (read_plain h2 fun h => h45 ?_).1⟩
              · rw [ez2]; exact List.mem_append_left _ h
              · rw [ez2]; exact List.mem_append_right _ (List.mem_append_right _ h)
    | p :: q :: r :: rest =>
      rw [hs] at ez
      have hz : readL (sl z) = none := read_colon (by
        rw [ez]
        show 58 ∈ sl p ++ ([58] ++ TL.joinL [58] ((q :: r :: rest).map sl))
        simp)
      show none = match pairOf (p :: q :: r :: rest) with | some w => some w | none => (readL (sl z)).map .int
      unfold pairOf
      rw [hz]; rfl
/-! and back -/
theorem char_back : ∀ c : Nat, c < 58 → (Char.ofNat c).toNat = c := by decide
theorem num_back {l : List Nat} (h : figs l = true) : TL.numL (PySem.NumText.digitsVal l) = l := by
  obtain ⟨h1, _⟩ := figs_len h
  have hd := figs_dig h
  have e := PySem.NumText.toDigits_digitsVal (l.length - 1) l (by omega) hd (by
    rcases figs_ahead h with h0 | h0
    · left; rw [h0]; rfl
    · right
      cases l with
      | nil => simp at h1
      | cons c r =>
        refine ⟨c, r, rfl, ?_⟩
        have := hd c (by simp)
        have : c ≠ 48 := fun z => h0 (by rw [z]; rfl)
        omega)
  unfold TL.numL
  rw [e, List.map_map]
  have : ∀ l : List Nat, (∀ c ∈ l, 48 ≤ c ∧ c ≤ 57) → l.map (Char.toNat ∘ Char.ofNat) = l := by
    intro l
    induction l with
    | nil => intro _; rfl
    | cons c r ih =>
      intro h
      rw [List.map_cons, ih fun x hx => h x (by simp [hx])]
      show (Char.ofNat c).toNat :: r = c :: r
      rw [char_back c (by have := h c (by simp); omega)]
  exact this l hd
theorem intT_nat (n : Nat) : sl (intT (n : Int)) = TL.numL n := TL.tl_num n
theorem intT_figs {l : List Nat} (h : figs l = true) : sl (intT (dval l)) = l := (intT_nat _).trans (num_back h)
theorem intT_neg {n : Nat} (h : 0 < n) : sl (intT (-(n : Int))) = 45 :: TL.numL n := by
  have e := PyProof.Rows.toString_neg (n := -(n : Int)) (by omega)
  have e2 : (0 : Int) - -(n : Int) = (n : Int) := by omega
  unfold intT
  rw [e, e2]
  show (Str.ofString ("-" ++ toString (n : Int))).cps.toList = _
  rw [show (Str.ofString ("-" ++ toString (n : Int))).cps.toList = ("-" ++ toString (n : Int)).toList.map Char.toNat from TL.tl_ofString _, String.toList_append, List.map_append, ← TL.tl_num n, TL.tl_ofString]
  rfl
theorem dval_pos {l : List Nat} (h : figs l = true) (h0 : l ≠ [48]) : 0 < PySem.NumText.digitsVal l := by
  rcases figs_ahead h with z | z
  · exact absurd z h0
  · cases l with
    | nil => have := figs_len h; simp at this
    | cons c r =>
      refine PySem.NumText.digitsVal_pos ?_
      have := figs_dig h c (by simp)
      have : c ≠ 48 := fun y => z (by rw [y]; rfl)
      omega
theorem read_text {l : List Nat} {i : Int} (h : readL l = some i) : sl (intT i) = l := by
  unfold readL at h
  split at h
  · rename_i e
    split at h
    · rename_i hf
      injection h with h
      subst h
      cases l with
      | nil => cases e
      | cons c r =>
        injection e with e
        subst e
        have h1 : figs r = true := hf.1
        show sl (intT (-(PySem.NumText.digitsVal r : Int))) = 45 :: r
        rw [intT_neg (dval_pos h1 hf.2), num_back h1]
    · cases h
  · split at h
    · injection h with h
      subst h
      exact intT_figs (by assumption)
    · cases h
theorem pair_split {z p q : Str} (h : Txt.split z colon = [p, q]) : sl z = sl p ++ ([58] ++ sl q) := by
  have := (split_facts z).2.2
  rw [h] at this
  exact this
theorem val_text {z : Str} {w : Wv} (h : valOf z = some w) : textOf w = z := by
  unfold valOf at h
  split at h
  · injection h with h; subst h; symm; assumption
  · split at h
    · rename_i w' hp
      injection h with h
      subst h
      unfold pairOf at hp
      split at hp
      · rename_i p q e
        split at hp
        · rename_i hf
          injection hp with hp
          subst hp
          refine TL.ext_tl ?_
          show TL.tl (intT _ ++ colon ++ intT _) = _
          rw [TL.tl_append, TL.tl_append]
          show sl (intT (dval (sl p))) ++ sl colon ++ sl (intT (dval (sl q))) = sl z
          rw [intT_figs hf.1, intT_figs hf.2, colon_sl, pair_split e, List.append_assoc]
        · cases hp
      · cases hp
    · cases hr : readL (sl z) with
      | none => rw [hr] at h; cases h
      | some i =>
        rw [hr] at h
        injection h with h
        subst h
        exact TL.ext_tl (read_text hr)
theorem read_len {l : List Nat} {i : Int} (h : readL l = some i) : l.length ≤ 41 ∧ 1 ≤ l.length := by
  unfold readL at h
  split at h
  · split at h
    · rename_i hf
      have := figs_len hf.1
      rw [List.length_tail] at this
      omega
    · cases h
  · split at h
    · rename_i hf
      have := figs_len hf
      omega
    · cases h
theorem val_len {z : Str} {w : Wv} (h : valOf z = some w) : z.length ≤ 81 := by
  unfold valOf at h
  split at h
  · rename_i e; rw [e]; decide
  · split at h
    · rename_i w' hp
      unfold pairOf at hp
      split at hp
      · rename_i p q e
        split at hp
        · rename_i hf
          have h1 := figs_len hf.1
          have h2 := figs_len hf.2
          rw [TL.len_tl, show TL.tl z = sl p ++ ([58] ++ sl q) from pair_split e]
          simp only [List.length_append, List.length_singleton]
          omega
        · cases hp
      · cases hp
    · cases hr : readL (sl z) with
      | none => rw [hr] at h; cases h
      | some i =>
        have := read_len hr
        rw [TL.len_tl]
        show (sl z).length ≤ 81
        omega
/-! the numbers are small -/
theorem dval_lt : ∀ l : List Nat, (∀ c ∈ l, 48 ≤ c ∧ c ≤ 57) → PySem.NumText.digitsVal l < 10 ^ l.length := by
  have gen : ∀ (l : List Nat) (a : Nat), (∀ c ∈ l, 48 ≤ c ∧ c ≤ 57) → l.foldl (fun acc c => acc * 10 + (c - 48)) a < (a + 1) * 10 ^ l.length := by
    intro l
    induction l with
    | nil => intro a _; simp
    | cons c r ih =>
      intro a h
      have hc := h c (by simp)
      have := ih (a * 10 + (c - 48)) fun x hx => h x (by simp [hx])
      refine Nat.lt_of_lt_of_le this ?_
      rw [List.length_cons, Nat.pow_succ]
      have h3 : a * 10 + (c - 48) + 1 ≤ (a + 1) * 10 := by omega
      calc (a * 10 + (c - 48) + 1) * 10 ^ r.length ≤ ((a + 1) * 10) * 10 ^ r.length := Nat.mul_le_mul_right _ h3
        _ = (a + 1) * (10 ^ r.length * 10) := by rw [Nat.mul_assoc, Nat.mul_comm 10]
  intro l h
  have := gen l 0 h
  simpa [PySem.NumText.digitsVal] using this
theorem figs_lt {l : List Nat} (h : figs l = true) : PySem.NumText.digitsVal l < 10 ^ 40 :=
  Nat.lt_of_lt_of_le (dval_lt l (figs_dig h)) (Nat.pow_le_pow_right (by decide) (figs_len h).2)
def okW : Wv → Prop
  | .non => True
  | .int i => i.natAbs < 10 ^ 40
  | .pair a b => 0 ≤ a ∧ 0 ≤ b ∧ a.natAbs < 10 ^ 40 ∧ b.natAbs < 10 ^ 40
theorem val_ok {z : Str} {w : Wv} (h : valOf z = some w) : okW w := by
  unfold valOf at h
  split at h
  · injection h with h; subst h; trivial
  · split at h
    · rename_i w' hp
      injection h with h
      subst h
      unfold pairOf at hp
      split at hp
      · split at hp
        · rename_i hf
          injection hp with hp
          subst hp
          have h1 := figs_lt hf.1
          have h2 := figs_lt hf.2
          refine ⟨Int.natCast_nonneg _, Int.natCast_nonneg _, ?_, ?_⟩
          · exact h1
          · exact h2
        · cases hp
      · cases hp
    · cases hr : readL (sl z) with
      | none => rw [hr] at h; cases h
      | some i =>
        rw [hr] at h
        injection h with h
        subst h
        show i.natAbs < 10 ^ 40
        unfold readL at hr
        split at hr
        · split at hr
          · rename_i hf
            injection hr with hr
            subst hr
            rw [Int.natAbs_neg]
            exact figs_lt hf.1
          · cases hr
        · split at hr
          · rename_i hf
            injection hr with hr
            subst hr
            exact figs_lt hf
          · cases hr
/-! what the tests look at -/
theorem int_figs {z : Str} (h : figs (sl z) = true) : PySem.intText? z = some (dval (sl z)) := by
  have h1 := figs_len h
  have h2 : (sl z).length = z.length := (TL.len_tl z).symm
  exact PySem.intText_digits (figs_dig h) (by intro e; have e2 : sl z = [] := e; rw [e2] at h1; simp at h1) (by omega)
theorem int_neg {z : Str} {r : List Nat} (hz : sl z = 45 :: r) (h : figs r = true) : PySem.intText? z = some (-(dval r)) := by
  have h1 := figs_len h
  have h2 : (sl z).length = z.length := (TL.len_tl z).symm
  rw [hz] at h2
  exact PySem.intText_neg hz (figs_dig h) (by intro e; rw [e] at h1; simp at h1) (by simp at h2; omega)
theorem cut_tail (z : Str) : sl (cutS z (some 1) none) = (sl z).tail := by
  have hl : (sl z).length = z.length := (TL.len_tl z).symm
  show (((sl z).drop (HT.sIx z.length 0 (some ((1 : Nat) : Int)))).take (z.length - HT.sIx z.length 0 (some ((1 : Nat) : Int)))) = _
  rw [HT.sIx_nat]
  cases h : sl z with
  | nil => simp
  | cons c r =>
    rw [h, List.length_cons] at hl
    have : min 1 z.length = 1 := by omega
    rw [this]
    simp only [List.drop_succ_cons, List.drop_zero, List.tail_cons]
    exact List.take_of_length_le (by omega)
theorem cut_whole (z : Str) : sl (cutS z (some 0) none) = sl z := by
  have hl : (sl z).length = z.length := (TL.len_tl z).symm
  show (((sl z).drop (HT.sIx z.length 0 (some ((0 : Nat) : Int)))).take (z.length - HT.sIx z.length 0 (some ((0 : Nat) : Int)))) = _
  rw [HT.sIx_nat]
  simp only [Nat.zero_min, List.drop_zero, Nat.sub_zero]
  exact List.take_of_length_le (by omega)
theorem cut_head (z : Str) : sl (cutS z none (some 1)) = (sl z).take 1 := by
  have hl : (sl z).length = z.length := (TL.len_tl z).symm
  show (((sl z).drop 0).take (HT.sIx z.length z.length (some ((1 : Nat) : Int)) - 0)) = _
  rw [HT.sIx_nat, List.drop_zero, Nat.sub_zero]
  cases h : sl z with
  | nil => simp
  | cons c r =>
    rw [h, List.length_cons] at hl
    have : min 1 z.length = 1 := by omega
    rw [this]
theorem str_eq_sl {x y : Str} : decide (V.str x = V.str y) = decide (sl x = sl y) := by
  rw [decide_eq_decide]
  constructor
  · intro h; injection h with h; rw [h]
  · intro h; rw [TL.ext_tl h]
theorem head_minus (z : Str) : decide (V.str (cutS z none (some 1)) = V.str "-") = decide ((sl z).head? = some 45) := by
  rw [str_eq_sl, cut_head, decide_eq_decide]
  have : sl ("-" : Str) = [45] := by decide +kernel
  rw [this]
  cases sl z with
  | nil => simp
  | cons c r => simp
theorem mem_figures (c : Nat) : decide (c ∈ ("0123456789" : Str).cps.toList) = dig c := by
  have e : ("0123456789" : Str).cps.toList = (List.range 10).map (· + 48) := by decide +kernel
  unfold dig
  rw [e, decide_eq_decide, List.mem_map]
  constructor
  · rintro ⟨x, hx, rfl⟩
    have := List.mem_range.mp hx
    omega
  · rintro ⟨h1, h2⟩
    exact ⟨c - 48, List.mem_range.mpr (by omega), by omega⟩

end Lw
namespace Lw
open PySem PySem.Spec L2 FG
open PyProof.Rows hiding St
/-- v, as it stands in H, is the value w -/
def RelW (H : Hp) : V → Wv → Prop
  | .non, .non => True
  | .int i, .int j => i = j
  | .ref q, .pair a b => H q = some (.tup [.int a, .int b])
  | _, _ => False
theorem RelW.kp {S : List Addr} {H H' : Hp} {v : V} {w : Wv} (h : RelW H v w) (k : Kp S H H') (hS : ∀ a ∈ S, ∀ xs, H a ≠ some (.tup xs)) : RelW H' v w := by
  cases v <;> cases w <;> first | exact h | skip
  exact k _ _ h fun z => hS _ z _ h
theorem RelW.kp0 {H H' : Hp} {v : V} {w : Wv} (h : RelW H v w) (k : Kp [] H H') : RelW H' v w := h.kp k fun _ z => by cases z
theorem RelW.sh {H : Hp} {v : V} {w : Wv} (h : RelW H v w) : Th H v := by
  cases v <;> cases w <;> first | exact False.elim h | skip
  · exact ⟨.non, fun xs e => by cases e⟩
  · exact ⟨.int _, fun xs e => by cases e⟩
  · refine ⟨.tup h, fun xs e => ?_⟩
    rw [tupV_ref h] at e
    injection e with e
    subst e
    refine ⟨by show 2 ≤ 100; decide, fun x hx => ?_⟩
    simp only [List.mem_cons, List.not_mem_nil, or_false] at hx
    rcases hx with rfl | rfl <;> exact .int _
/-- what has no text -/
structure NoVal (H : Hp) (v : V) : Prop where
  n : v ≠ .non
  i : numV v = false
  p : pairV H v = false
theorem intT_log {i : Int} (h : i.natAbs < 10 ^ 40) : i.natAbs.log2 < 1920 := log2_small (Nat.lt_trans h (by decide +kernel))
theorem intT_len {i : Int} (h : i.natAbs < 10 ^ 40) : (intT i).length ≤ 42 := by
  have h1 := int_text_length_le10 (a := i) (k := 40) (by decide) h
  have h2 : (intT i).length = (toString i).length := by
    show (Str.ofString (toString i)).length = _
    rw [PySem.ofString_length]
  omega
theorem join_len : ∀ (ps : List (List Nat)) (p : List Nat), p ∈ ps → p.length ≤ (TL.joinL [58] ps).length
  | [], _, h => by cases h
  | [q], p, h => by rw [List.mem_singleton.mp h]; exact Nat.le_refl _
  | q :: r :: t, p, h => by
    show p.length ≤ (q ++ ([58] ++ TL.joinL [58] (r :: t))).length
    rw [List.length_append, List.length_append]
    rcases List.mem_cons.mp h with h | h
    · subst h; omega
    · have := join_len (r :: t) p h; omega
theorem part_len {z x : Str} (h : x ∈ Txt.split z colon) : x.length ≤ z.length := by
  have e := (split_facts z).2.2
  have := join_len ((Txt.split z colon).map sl) (sl x) (List.mem_map.mpr ⟨x, h, rfl⟩)
  rw [← e] at this
  rw [TL.len_tl x, TL.len_tl z]
  exact this
theorem sz200 : (200 : Nat) ≤ sizeLine := by decide
def spFigs : Sp := fun vs H Q _ => ∃ z : Str, vs = [.str z] ∧ z.length ≤ 4000 ∧ ∀ H', Kp [] H H' → Q (.bl (figs (sl z))) H'
def NoOut (K : PySem.W.Frag) (H : Hp) (v : V) (E : XK) : Prop := ∀ d H', Kp [] H H' → H d = none → H' d = some (.xd [("found", v)]) → E (.ref (He.ga K "NoValue")) (some d) H'
def spText (K : PySem.W.Frag) : Sp := fun vs H Q E => ∃ v, vs = [v] ∧ Th H v ∧ ((∃ w, RelW H v w ∧ okW w ∧ ∀ H', Kp [] H H' → Q (.str (textOf w)) H') ∨ (NoVal H v ∧ NoOut K H v E))
def valV (v : V) : Option Wv := match strV v with
  | some z => valOf z
  | none => none
def spVal (K : PySem.W.Frag) : Sp := fun vs H Q E => ∃ v, vs = [v] ∧ Sh H v ∧ (∀ z, strV v = some z → z.length ≤ 4000) ∧ (∀ w, valV v = some w → ∀ u H', Kp [] H H' → RelW H' u w → Q u H') ∧ (valV v = none → NoOut K H v E)
section
variable {P : Program} {w : World} {K : PySem.W.Frag} {mg : Str → Option Value} {base : Heap}
theorem ok_figs (T : Tx K mg) {fd : FuncData} (F : Fun K "are_figures" "are_figures" s_are_figures (He.ga K "are_figures") fd) : FnG P w K mg base 1 (He.ga K "are_figures") fd ["text"] spFigs := by
  refine FnG.of F sc_are_figures (fun vs H Q E h => ?_) (fun cdv A outer s H vs Q E hr h => ?_)
  · obtain ⟨v, rfl, _⟩ := h; rfl
  · obtain ⟨z, rfl, hz, q⟩ := h
    obtain ⟨tL, hg_FIGURES⟩ := T.i_FIGURES
    obtain ⟨tM, hg_MOST_FIGURES⟩ := T.i_MOST_FIGURES
    have hz2 : z.length ≤ sizeLine := Nat.le_trans hz (by decide)
    have hl : (sl z).length = z.length := (TL.len_tl z).symm
    have no : ¬ (1 ≤ z.length ∧ z.length ≤ 40) → figs (sl z) = false := fun h => by
      unfold figs; rw [hl, decide_eq_false h, Bool.false_and]
    refine ⟨_, pss_cons (ps_if (PW.pt (pw_or (pt_not (pt_chain op_le op_le (pe_int) (pe_callB call_len_str (by rfl) T.z_len PySem.boot_len (pa_cons (pv 0) (pa_nil))) (pe_glob (v := .int 40) rfl hg_MOST_FIGURES ⟨_, rfl⟩))) (pw_or1 (pt_not (pt_val (pe_callB (kall K) (by rfl) T.z_all (by decide +kernel) (pa_cons (pe_lc (own := [("sign", 1)]) (g := gName 1) (tt := tYes) rfl sc_are_figures.nd (pi_str (pv 0)) (blkOk_by (own := [("sign", 1)]) (N := ["text", "sign"]) (sc := defScope s_are_figures) (by decide +kernel)) (fun _ _ _ _ _ => pg_name (i := 1) sc_are_figures.nd rfl (by first | exact Or.inl rfl | exact Or.inr rfl)) (fun _ _ _ _ _ => by exact pts_nil) (fun _ _ _ _ _ => by exact pe_cmpR op_in_sign (pv 1) (pe_glob (v := .str "0123456789") rfl hg_FIGURES ⟨_, rfl⟩) (by first | exact nomark _ | rfl))) (pa_nil)))))))) (pss_one (ps_ret (pe_bl))) (pss_nil))
      (pss_one (ps_ret (pe_or (pe_cmpR op_eq (pv 0) (pe_str) (by first | exact nomark _ | rfl)) (pe_one (pe_cmpR op_ne (pe_ix ix_str (pv 0) (pe_int) (fun _ _ => rfl)) (pe_str) (by first | exact nomark _ | rfl)))))), ?_⟩
    refine ⟨_, rfl, z, rfl, hz2, _, _, rfl, rfl, _, rfl, ?_⟩
    by_cases h1 : (1 : Int) ≤ z.length
    rotate_left
    · rw [decide_eq_false h1]
      refine iteF ?_
      rw [no (by omega)] at q
      exact ⟨_, rfl, iteT (iteT (q H Kp.refl))⟩
    rw [decide_eq_true h1]
    refine iteT ⟨_, _, rfl, rfl, _, rfl, ?_⟩
    by_cases h2 : (z.length : Int) ≤ 40
    rotate_left
    · rw [decide_eq_false h2]
      rw [no (by omega)] at q
      exact iteT (iteT (q H Kp.refl))
    rw [decide_eq_true h2]
    refine iteF ⟨_, rfl, z, rfl, fun D hD => ?_⟩
    have neD : ∀ b o, H b = some o → b ≠ D := fun b o eb => ne_of_none eb hD
    refine lc_it walk_str (fun i H2 => Kp [] H H2 ∧ H2 D = some (.lst (((z.cps.toList.take i).map dig).map V.bl))) ⟨fun b o eb _ => (upd_ne (neD b o eb)).trans eb, upd_same⟩ (fun _ _ _ _ => trivial) ?_ ?_
    · rintro i x H3 H2 hi ⟨k2, eD⟩ ⟨rfl, c, hc, rfl⟩
      refine ⟨rfl, _, rfl, c, _, rfl, rfl, _, eD, ?_, ?_⟩
      · have h9 : (List.take i z.cps.toList).length ≤ (z.cps.toList).length := by rw [List.length_take]; omega
        rw [List.length_map, List.length_map]
        have h8 : z.cps.toList.length ≤ 40 := by
          have h7 : z.cps.toList.length = z.length := hl
          omega
        refine Nat.lt_of_le_of_lt (m := 40) (by omega) (by decide)
      · refine ⟨fun b o eb _ => (upd_ne (neD b o eb)).trans (k2 b o eb (by simp)), ?_⟩
        have hc2 : z.cps.toList[i]? = some c := by rw [Array.getElem?_toList]; exact hc
        rw [upd_same, mem_figures, map_take dig hc2, List.map_append]; rfl
    · rintro H2 ⟨k2, eD⟩
      have h3 : z.cps.toList.take z.cps.size = z.cps.toList := by rw [← Array.length_toList, List.take_length]
      rw [h3] at eD
      refine ⟨D, z.cps.toList.map dig, rfl, SqL.of eD, ?_⟩
      rw [all_take]
      have ef : figs (sl z) = ((sl z).all dig && (decide (sl z = [48]) || decide ((sl z).head? ≠ some 48))) := by
        unfold figs; rw [decide_eq_true (by omega), Bool.true_and]
      cases hd : z.cps.toList.all dig with
      | false =>
        rw [show (sl z).all dig = false from hd, Bool.false_and] at ef
        rw [ef] at q
        exact ⟨_, rfl, iteT (q H2 k2)⟩
      | true =>
        rw [show (sl z).all dig = true from hd, Bool.true_and] at ef
        rw [ef] at q
        refine ⟨_, rfl, iteF ⟨_, rfl, rfl, ?_⟩⟩
        rw [str_eq_sl, show sl ("0" : Str) = [48] from by decide +kernel]
        refine ⟨_, rfl, iteB (fun h5 => ?_) (fun h5 => ?_)⟩
        · rw [h5, Bool.true_or] at q
          exact q H2 k2
        · rw [h5, Bool.false_or] at q
          obtain ⟨c, r, e⟩ : ∃ c r, sl z = c :: r := by
            cases e : sl z with
            | nil => rw [e] at hl; simp at hl; omega
            | cons c r => exact ⟨c, r, rfl⟩
          refine ⟨_, rfl, z, 0, c, rfl, rfl, hz2, ?_, rfl, ?_⟩
          · show atI (sl z) ((0 : Nat) : Int) = some c
            exact atI_nat (by rw [e]; rfl)
          · rw [str_eq_sl]
            have e2 : (!decide (sl (⟨#[c]⟩ : Str) = sl ("0" : Str))) = decide ((sl z).head? ≠ some 48) := by
              rw [e, show sl ("0" : Str) = [48] from by decide +kernel, show sl (⟨#[c]⟩ : Str) = [c] from rfl]
              by_cases hc : c = 48 <;> simp [hc]
            rw [e2]
            exact q H2 k2
theorem ok_vtext (T : Tx K mg) {fd : FuncData} (F : Fun K "value_text" "value_text" s_value_text (He.ga K "value_text") fd) (c_is_number : Cal P w K mg base 1 "is_number" spNumG) (c_is_pair : Cal P w K mg base 2 "is_pair" spPair)
    (r_NoValue : Rai P w K mg base "NoValue" (He.ga K "NoValue") ["found"]) : FnG P w K mg base 3 (He.ga K "value_text") fd ["value"] (spText K) := by
  refine FnG.of F sc_value_text (fun vs H Q E h => ?_) (fun cdv A outer s H vs Q E hr h => ?_)
  · obtain ⟨v, rfl, _⟩ := h; rfl
  · obtain ⟨v, rfl, th, h⟩ := h
    refine ⟨_, pss_cons (ps_if (pt_cmpR op_isN (pv 0) (pe_non) (by first | exact nomark _ | rfl)) (pss_one (ps_ret (pe_str))) (pss_nil))
      (pss_cons (ps_if (pt_val (gc c_is_number (hr.mono (by decide)) tkE (pa_cons (pv 0) (pa_nil)))) (pss_one (ps_ret (pe_callTy call_str_int (by rfl) T.z_str (by decide +kernel) (pa_cons (pv 0) (pa_nil))))) (pss_nil))
      (pss_cons (ps_if (pt_val (gc c_is_pair (hr.mono (by decide)) tkE (pa_cons (pv 0) (pa_nil)))) (pss_one (ps_ret (pe_op op_add_str (pe_op op_add_str (pe_callTy call_str_int (by rfl) T.z_str (by decide +kernel) (pa_cons (pe_ix (kixT K) (pv 0) (pe_int) (fun _ _ => rfl)) (pa_nil))) (pe_str)) (pe_callTy call_str_int (by rfl) T.z_str (by decide +kernel) (pa_cons (pe_ix (kixT K) (pv 0) (pe_int) (fun _ _ => rfl)) (pa_nil)))))) (pss_nil))
      (pss_one (ps_rais r_NoValue (hr.mono (by decide)) tkE (pa_cons (pv 0) (pa_nil)))))), ?_⟩
    rcases h with ⟨u, hu, ok, q⟩ | ⟨⟨n1, n2, n3⟩, out⟩
    · cases v <;> cases u <;> first | exact False.elim hu | skip
      · exact ⟨_, rfl, rfl, _, rfl, iteT (q H Kp.refl)⟩
      · rename_i i j
        obtain rfl : i = j := hu
        exact ⟨_, rfl, rfl, _, rfl, iteF ⟨_, rfl, _, rfl, th.sh, _, rfl, iteT ⟨_, rfl, _, rfl, intT_log ok, q H Kp.refl⟩⟩⟩
      · rename_i p a b
        have hp : H p = some (.tup [.int a, .int b]) := hu
        obtain ⟨a0, b0, a1, b1⟩ := ok
        refine ⟨_, rfl, rfl, _, rfl, iteF ⟨_, rfl, _, rfl, th.sh, _, rfl, iteF ⟨_, rfl, _, rfl, th, fun H1 k1 => ⟨_, rfl, ?_⟩⟩⟩⟩
        have e : pairV H (.ref p) = true := by
          unfold pairV; rw [tupV_ref hp]
          show pairL [.int a, .int b] = true
          unfold pairL
          simp [posV, a0, b0]
        rw [e]
        have hp1 := k1 _ _ hp (by simp)
        refine iteT ⟨_, rfl, p, _, _, _, rfl, rfl, SqT.of hp1, rfl, _, rfl, intT_log a1, _, _, rfl, rfl, ?_, _, rfl, p, _, _, _, rfl, rfl, SqT.of hp1, rfl, _, rfl, intT_log b1, _, _, rfl, rfl, ?_, ?_⟩
        · have := intT_len a1
          show (intT a).length + (":" : Str).length ≤ sizeLine
          have h9 : (":" : Str).length = 1 := by decide +kernel
          exact Nat.le_trans (by omega) sz200
        · have h1 := intT_len a1
          have h2 := intT_len b1
          show (intT a ++ (":" : Str)).length + (intT b).length ≤ sizeLine
          rw [PySem.Str.length_append]
          have h9 : (":" : Str).length = 1 := by decide +kernel
          exact Nat.le_trans (by omega) sz200
        · exact q H1 k1
    · refine ⟨_, rfl, rfl, _, rfl, ?_⟩
      rw [decide_eq_false n1]
      refine iteF ⟨_, rfl, _, rfl, th.sh, _, rfl, ?_⟩
      rw [n2]
      refine iteF ⟨_, rfl, _, rfl, th, fun H1 k1 => ⟨_, rfl, ?_⟩⟩
      rw [n3]
      exact iteF ⟨_, rfl, rfl, (by show 1 ≤ 10; decide), fun d hd => out d _ (k1.new hd) (k1.free hd) upd_same⟩
theorem ok_val (T : Tx K mg) {fd : FuncData} (F : Fun K "value_of" "value_of" s_value_of (He.ga K "value_of") fd) (c_are_figures : Cal P w K mg base 1 "are_figures" spFigs)
    (r_NoValue : Rai P w K mg base "NoValue" (He.ga K "NoValue") ["found"]) : FnG P w K mg base 3 (He.ga K "value_of") fd ["text"] (spVal K) := by
  refine FnG.of F sc_value_of (fun vs H Q E h => ?_) (fun cdv A outer s H vs Q E hr h => ?_)
  · obtain ⟨v, rfl, _⟩ := h; rfl
  · obtain ⟨v, rfl, sh, hl, q, out⟩ := h
    obtain ⟨t, ht, _, _, hs, _⟩ := sh.ty K
    refine ⟨_, pss_cons (ps_if (pt_not (pt_val (pe_callB (kisi K) (by rfl) T.z_isinstance (by decide +kernel) (pa_cons (pv 0) (pa_cons (pe_bltn (v := .ty "str") (by rfl) T.z_str (by decide +kernel) rfl) (pa_nil)))))) (pss_one (ps_rais r_NoValue (hr.mono (by decide)) tkE (pa_cons (pv 0) (pa_nil)))) (pss_nil))
      (pss_cons (ps_if (pt_cmpR op_eq (pv 0) (pe_str) (by first | exact nomark _ | rfl)) (pss_one (ps_ret (pe_non))) (pss_nil))
      (pss_cons (ps_set (i := 1) sc_value_of.nd rfl (by first | exact Or.inl rfl | exact Or.inr rfl) (pe_split (pv 0) (pe_str)))
      (pss_cons (ps_if (PW.pt (pw_and (pt_cmpR op_eq (pe_callB (klen K) (by rfl) T.z_len PySem.boot_len (pa_cons (pv 1) (pa_nil))) (pe_int) (by first | exact nomark _ | rfl)) (pw_and (pt_val (gc c_are_figures (hr.mono (by decide)) tkE (pa_cons (pe_ix (kixL K) (pv 1) (pe_int) (fun _ _ => rfl)) (pa_nil)))) (pw_and1 (pt_val (gc c_are_figures (hr.mono (by decide)) tkE (pa_cons (pe_ix (kixL K) (pv 1) (pe_int) (fun _ _ => rfl)) (pa_nil)))))))) (pss_one (ps_ret (pe_tup (pa_cons (pe_callTy call_int_str (by rfl) T.z_int (by decide +kernel) (pa_cons (pe_ix (kixL K) (pv 1) (pe_int) (fun _ _ => rfl)) (pa_nil))) (pa_cons (pe_callTy call_int_str (by rfl) T.z_int (by decide +kernel) (pa_cons (pe_ix (kixL K) (pv 1) (pe_int) (fun _ _ => rfl)) (pa_nil))) (pa_nil)))))) (pss_nil))
      (pss_cons (ps_if (pt_val (gc c_are_figures (hr.mono (by decide)) tkE (pa_cons (pv 0) (pa_nil)))) (pss_one (ps_ret (pe_callTy call_int_str (by rfl) T.z_int (by decide +kernel) (pa_cons (pv 0) (pa_nil))))) (pss_nil))
      (pss_cons (ps_if (PW.pt (pw_and (pt_cmpR op_eq (pe_slice sl_str (pv 0) (po_none) (po_some (pe_int))) (pe_str) (by first | exact nomark _ | rfl)) (pw_and (pt_val (gc c_are_figures (hr.mono (by decide)) tkE (pa_cons (pe_slice sl_str (pv 0) (po_some (pe_int)) (po_none)) (pa_nil)))) (pw_and1 (pt_cmpR op_ne (pv 0) (pe_str) (by first | exact nomark _ | rfl)))))) (pss_one (ps_ret (pe_op op_sub (pe_int) (pe_callTy call_int_str (by rfl) T.z_int (by decide +kernel) (pa_cons (pe_slice sl_str (pv 0) (po_some (pe_int)) (po_none)) (pa_nil)))))) (pss_nil))
      (pss_one (ps_rais r_NoValue (hr.mono (by decide)) tkE (pa_cons (pv 0) (pa_nil))))))))), ?_⟩
    cases hv : strV v with
    | none =>
      rw [hv] at hs
      have out := out (by unfold valV; rw [hv])
      exact ⟨_, rfl, _, _, _, _, false, rfl, .ty _, ht, kit_ty hs, false, rfl, iteT ⟨_, rfl, rfl, (by show 1 ≤ 10; decide), fun d hd => out d _ (Kp.refl.new hd) hd upd_same⟩⟩
    | some z =>
      rw [hv] at hs
      have hz := hl z hv
      obtain rfl := strV_some hv
      have ev : valV (.str z) = valOf z := rfl
      rw [ev] at q out
      have hz2 : z.length ≤ sizeLine := Nat.le_trans hz (by decide)
      refine ⟨_, rfl, _, _, _, _, true, rfl, .ty _, ht, kit_ty hs, true, rfl, iteF ⟨_, rfl, rfl, _, rfl, ?_⟩⟩
      refine iteB (fun h1 => ?_) (fun h1 => ?_)
      · have e : z = "none" := by
          have := of_decide_eq_true h1; injection this
        subst e
        exact q .non (by unfold valOf; rw [if_pos rfl]) .non H Kp.refl trivial
      have hne : ¬ z = "none" := fun e => by rw [e] at h1; simp at h1
      refine ⟨_, rfl, ⟨z, rfl⟩, z, colon, rfl, rfl, by decide +kernel, Nat.le_trans (m := 4002) (by omega) (by decide), fun p hp => ?_⟩
      generalize hH1 : upd H p (.lst ((Txt.split z colon).map V.str)) = H1
      have k1 : Kp [] H H1 := hH1 ▸ Kp.refl.new hp
      have ep : H1 p = some (.lst ((Txt.split z colon).map V.str)) := hH1 ▸ upd_same
      clear hH1
      walk_at "nx"
      refine (cut_if (fun b H2 => Kp [] H H2 ∧ H2 p = some (.lst ((Txt.split z colon).map V.str)) ∧ b = (pairOf (Txt.split z colon)).isSome) (fun Q' q' => ?_) ?_)
      · have hlen : ∀ x ∈ Txt.split z colon, x.length ≤ 4000 := fun x hx => Nat.le_trans (part_len hx) hz
        refine ⟨_, rfl, p, _, rfl, .inl (SqL.of ep), rfl, _, rfl, ?_⟩
        rw [List.length_map]
        by_cases h2 : (Txt.split z colon).length = 2
        rotate_left
        · have e : pairOf (Txt.split z colon) = none := by
            unfold pairOf
            split
            · rename_i e; rw [e] at h2; simp at h2
            · rfl
          rw [e] at q'
          rw [show decide (V.int ((Txt.split z colon).length : Nat) = V.int 2) = false from decide_eq_false (fun c => h2 (by injection c with c; omega))]
          exact iteF (q' _ _ ⟨k1, ep, rfl⟩)
        obtain ⟨x, y, e⟩ : ∃ x y, Txt.split z colon = [x, y] := by
          match hs : Txt.split z colon with
          | [] => rw [hs] at h2; simp at h2
          | [a] => rw [hs] at h2; simp at h2
          | [a, b] => exact ⟨a, b, rfl⟩
          | a :: b :: c :: r => rw [hs] at h2; simp at h2
        rw [e] at ep hlen q' ⊢
        refine iteT ⟨_, rfl, p, _, _, _, rfl, rfl, SqL.of ep, rfl, x, rfl, hlen x (by simp), fun H2 k2 => ⟨_, rfl, ?_⟩⟩
        refine iteB (fun f1 => ?_) (fun f1 => ?_)
        · have ep2 := k2 _ _ ep (by simp)
          refine ⟨_, rfl, p, _, _, _, rfl, rfl, SqL.of ep2, rfl, y, rfl, hlen y (by simp), fun H3 k3 => ⟨_, rfl, ?_⟩⟩
          refine q' _ _ ⟨(k1.trans k2).trans k3, k3 _ _ ep2 (by simp), ?_⟩
          unfold pairOf
          cases hf : figs (sl y) with
          | true => simp only [f1, hf, and_self, if_true, Option.isSome_some]
          | false => simp [f1, hf]
        · refine q' _ _ ⟨k1.trans k2, k2 _ _ ep (by simp), ?_⟩
          unfold pairOf
          simp [f1]
      · rintro b H2 ⟨k2, ep2, rfl⟩
        cases hp2 : pairOf (Txt.split z colon) with
        | some u =>
          refine iteT ?_
          unfold pairOf at hp2
          split at hp2
          · rename_i x y e
            split at hp2
            · rename_i hf
              injection hp2 with hp2
              rw [e] at ep2
              have hv2 : valOf z = some u := by
                unfold valOf
                rw [if_neg hne, e]
                unfold pairOf
                simp only [if_pos hf, hp2]
              have lx := figs_len hf.1
              have ly := figs_len hf.2
              have hx : x.length = (sl x).length := TL.len_tl x
              have hy : y.length = (sl y).length := TL.len_tl y
              refine ⟨_, rfl, p, _, _, _, rfl, rfl, SqL.of ep2, rfl, x, _, rfl, int_figs hf.1, by omega, _, rfl, p, _, _, _, rfl, rfl, SqL.of ep2, rfl, y, _, rfl, int_figs hf.2, by omega, (by show 2 ≤ sizeLine; decide), fun t ht => ?_⟩
              refine q u hv2 _ _ (k2.new ht) ?_
              subst hp2
              exact upd_same
            · cases hp2
          · cases hp2
        | none =>
          have hv2 : valOf z = (readL (sl z)).map .int := by unfold valOf; rw [if_neg hne, hp2]
          rw [hv2] at q out
          refine iteF ⟨_, rfl, z, rfl, hz, fun H3 k3 => ⟨_, rfl, ?_⟩⟩
          have k23 := k2.trans k3
          have hl40 : (sl z).length = z.length := (TL.len_tl z).symm
          refine iteB (fun f1 => ?_) (fun f1 => ?_)
          · have := figs_len f1
            refine ⟨_, rfl, z, _, rfl, int_figs f1, by omega, ?_⟩
            exact q (.int (dval (sl z))) (by rw [read_figs f1]; rfl) _ _ k23 rfl
          refine ⟨_, rfl, _, rfl, z, rfl, hz2, rfl, _, rfl, ?_⟩
          rw [head_minus]
          by_cases hm : (sl z).head? = some 45
          rotate_left
          · rw [decide_eq_false hm]
            have e : readL (sl z) = none := by unfold readL; rw [if_neg hm, if_neg (by rw [f1]; simp)]
            refine iteF (iteF ⟨_, rfl, rfl, (by show 1 ≤ 10; decide), fun d hd => out (by rw [e]; rfl) d _ (k23.new hd) (k23.free hd) upd_same⟩)
          rw [decide_eq_true hm]
          have ct := cut_tail z
          have cl := cutS_length z (some 1) none
          refine iteT ⟨_, rfl, _, rfl, z, rfl, hz2, _, rfl, by omega, fun H4 k4 => ⟨_, rfl, ?_⟩⟩
          rw [ct]
          have k24 := k23.trans k4
          obtain ⟨r, er⟩ : ∃ r, sl z = 45 :: r := by
            cases e : sl z with
            | nil => rw [e] at hm; cases hm
            | cons c r => rw [e] at hm; injection hm with hm; exact ⟨r, by rw [hm]⟩
          have nz : ∀ {b : Bool}, b = false → b = true → False := fun h1 h2 => by rw [h1] at h2; cases h2
          refine iteB (fun f2 => ?_) (fun f2 => ?_)
          rotate_left
          · have e : readL (sl z) = none := by unfold readL; rw [if_pos hm, if_neg (fun h => nz f2 h.1)]
            exact iteF ⟨_, rfl, rfl, (by show 1 ≤ 10; decide), fun d hd => out (by rw [e]; rfl) d _ (k24.new hd) (k24.free hd) upd_same⟩
          refine ⟨_, rfl, rfl, _, rfl, ?_⟩
          rw [str_eq_sl, show sl ("-0" : Str) = [45, 48] from by decide +kernel]
          by_cases h0 : (sl z).tail = [48]
          · have e2 : sl z = [45, 48] := by rw [er] at h0 ⊢; rw [show r = [48] from h0]
            have e : readL (sl z) = none := by unfold readL; rw [if_pos hm, if_neg (fun h => h.2 h0)]
            rw [decide_eq_true e2]
            exact iteF ⟨_, rfl, rfl, (by show 1 ≤ 10; decide), fun d hd => out (by rw [e]; rfl) d _ (k24.new hd) (k24.free hd) upd_same⟩
          · have e2 : ¬ sl z = [45, 48] := fun h => h0 (by rw [h]; rfl)
            have e : readL (sl z) = some (-(dval (sl z).tail)) := by unfold readL; rw [if_pos hm, if_pos ⟨f2, h0⟩]
            rw [decide_eq_false e2]
            have l2 := figs_len f2
            have f3 : figs (sl (cutS z (some 1) none)) = true := by rw [ct]; exact f2
            have l3 : (cutS z (some 1) none).length = (sl (cutS z (some 1) none)).length := TL.len_tl _
            rw [ct] at l3
            refine iteT ⟨_, rfl, _, rfl, z, rfl, hz2, _, _, rfl, int_figs f3, by omega, _, _, rfl, rfl, ?_⟩
            refine q _ (by rw [e]; rfl) _ _ k24 ?_
            rw [ct]
            show (0 : Int) - _ = - _
            omega
end

end Lw
namespace Lw
open PySem PySem.Spec L2 FG
open PyProof.Rows hiding St
/-! ### the law's things -/
def lowS (z : Str) : Prop := (sl z).all (fun c => decide (c < 128)) = true
theorem low_app {x y : Str} (h : lowS x) (k : lowS y) : lowS (x ++ y) := by
  unfold lowS at *
  show (TL.tl (x ++ y)).all _ = true
  rw [TL.tl_append, List.all_append, Bool.and_eq_true]
  exact ⟨h, k⟩
theorem low_mem {x : Str} {c : Nat} (h : lowS x) (hc : c ∈ sl x) : c < 128 := of_decide_eq_true (List.all_eq_true.mp h c hc)
theorem low_of {x : Str} (h : ∀ c ∈ sl x, c < 128) : lowS x := List.all_eq_true.mpr fun c hc => decide_eq_true (h c hc)
theorem low_sign {x : Str} {c : Nat} (h : lowS x) (hc : c ∈ sl x) : lowS ⟨#[c]⟩ := low_of fun d hd => by
  have e : d = c := by simpa using hd
  rw [e]; exact low_mem h hc
theorem low_cut {x : Str} (h : lowS x) (a b : Option Int) : lowS (cutS x a b) := low_of fun c hc => low_mem h (List.mem_of_mem_drop (List.mem_of_mem_take hc))
theorem low_joinL {S : List Nat} (hS : ∀ c ∈ S, c < 128) : ∀ ps : List (List Nat), (∀ p ∈ ps, ∀ c ∈ p, c < 128) → ∀ c ∈ TL.joinL S ps, c < 128
  | [], _, c, hc => by cases hc
  | [p], h, c, hc => h p (by simp) c hc
  | p :: q :: r, h, c, hc => by
    have hc2 : c ∈ p ++ (S ++ TL.joinL S (q :: r)) := hc
    rcases List.mem_append.mp hc2 with z | z
    · exact h p (by simp) c z
    · rcases List.mem_append.mp z with z | z
      · exact hS c z
      · exact low_joinL hS (q :: r) (fun x hx => h x (List.mem_cons_of_mem _ hx)) c z
theorem low_join {s : Str} {ys : List Str} (hs : lowS s) (h : ∀ y ∈ ys, lowS y) : lowS (Txt.join s ys) := by
  refine low_of fun c hc => ?_
  have e : sl (Txt.join s ys) = TL.joinL (sl s) (ys.map sl) := by
    show TL.tl (Txt.join s ys) = _
    rw [TL.join_eq, TL.tl_join]
  rw [e] at hc
  refine low_joinL (fun c hc => low_mem hs hc) _ (fun p hp c hc => ?_) c hc
  obtain ⟨y, hy, rfl⟩ := List.mem_map.mp hp
  exact low_mem (h y hy) hc
theorem low_int (i : Int) : lowS (intT i) := by
  refine low_of fun c hc => ?_
  by_cases h : 0 ≤ i
  · obtain ⟨n, rfl⟩ : ∃ n : Nat, i = n := ⟨i.toNat, by omega⟩
    rw [intT_nat] at hc
    have := TL.numL_digits n c hc
    omega
  · obtain ⟨n, rfl⟩ : ∃ n : Nat, i = -(n : Int) := ⟨i.natAbs, by omega⟩
    rw [intT_neg (by omega)] at hc
    rcases List.mem_cons.mp hc with z | z
    · omega
    · have := TL.numL_digits n c z
      omega
theorem low_text (w : Wv) : lowS (textOf w) := by
  cases w with
  | non => unfold lowS; decide +kernel
  | int i => exact low_int i
  | pair a b => exact low_app (low_app (low_int a) (by unfold lowS; decide +kernel)) (low_int b)
def spPage : Sp := fun vs H Q _ => vs = [] ∧ ∀ z : Str, z.length = 94 → lowS z → Q (.str z) H
def spNumber : Sp := fun vs H Q _ => ∃ (b : Addr) (n : Int), vs = [.ref b] ∧ BoxAt H b n ∧ n < 100000000 ∧ ∀ H' z, Kp [b] H H' → BoxAt H' b (n + 3) → z.natAbs < 10 ^ 31 → Q (.int z) H'
def spValue : Sp := fun vs H Q _ => ∃ (b : Addr) (n : Int), vs = [.ref b] ∧ BoxAt H b n ∧ n < 10000000 ∧ ∀ H' v w, Kp [b] H H' → BoxAt H' b (n + 7) → RelW H' v w → okW w → Q v H'
def spLText : Sp := fun vs H Q _ => ∃ v w, vs = [v] ∧ RelW H v w ∧ okW w ∧ Q (.str (textOf w)) H
def spFigures : Sp := fun vs H Q _ => ∃ (b : Addr) (n : Int), vs = [.ref b] ∧ BoxAt H b n ∧ n < 10000000 ∧ ∀ H' z, Kp [b] H H' → BoxAt H' b (n + 50) → z.length ≤ 50 → lowS z → Q (.str z) H'
def spBent : Sp := fun vs H Q _ => ∃ (b : Addr) (n : Int) (z : Str), vs = [.ref b, .str z] ∧ BoxAt H b n ∧ n < 10000000 ∧ z.length ≤ 100 ∧ lowS z ∧ ∀ H' y, Kp [b] H H' → BoxAt H' b (n + 20) → y.length ≤ 200 → lowS y → Q (.str y) H'
theorem at_any {xs : List V} {i : Int} (h0 : 0 ≤ i) (h1 : i < xs.length) : ∃ v, v ∈ xs ∧ atI xs i = some v := by
  obtain ⟨j, rfl⟩ : ∃ j : Nat, i = j := ⟨i.toNat, by omega⟩
  have hj : j < xs.length := by omega
  exact ⟨xs[j], List.getElem_mem hj, atI_nat (List.getElem?_eq_getElem hj)⟩
theorem str_at {z : Str} {i : Int} (h0 : 0 ≤ i) (h1 : i < z.length) : ∃ c, c ∈ sl z ∧ atI z.cps.toList i = some c := by
  obtain ⟨j, rfl⟩ : ∃ j : Nat, i = j := ⟨i.toNat, by omega⟩
  have hj : j < z.cps.toList.length := by
    have : z.cps.toList.length = z.length := by simp [Str.length]
    omega
  exact ⟨z.cps.toList[j], List.getElem_mem hj, atI_nat (List.getElem?_eq_getElem hj)⟩
theorem sign_len (c : Nat) : (⟨#[c]⟩ : Str).length = 1 := rfl
theorem joinL_len (S : List Nat) : ∀ ps : List (List Nat), (TL.joinL S ps).length ≤ (ps.map List.length).sum + ps.length * S.length
  | [] => by simp [TL.joinL]
  | [p] => by simp [TL.joinL]
  | p :: q :: r => by
    have := joinL_len S (q :: r)
    show (p ++ (S ++ TL.joinL S (q :: r))).length ≤ _
    rw [List.length_append, List.length_append, List.map_cons, List.sum_cons, List.length_cons, Nat.add_mul, Nat.one_mul]
    omega
theorem joinT_len (s : Str) (ys : List Str) : (Txt.join s ys).length ≤ (ys.map (·.length)).sum + ys.length * s.length := by
  rw [TL.join_eq, TL.len_tl, TL.tl_join]
  refine Nat.le_trans (joinL_len _ _) ?_
  rw [List.map_map, List.length_map, ← TL.len_tl s]
  have : ys.map (List.length ∘ TL.tl) = ys.map (·.length) := List.map_congr_left fun x _ => (TL.len_tl x).symm
  rw [this]
  exact Nat.le_refl _
theorem sum_le {ys : List Str} {m : Nat} (h : ∀ y ∈ ys, y.length ≤ m) : (ys.map (·.length)).sum ≤ ys.length * m := by
  induction ys with
  | nil => simp
  | cons y r ih =>
    have h1 := ih fun x hx => h x (by simp [hx])
    have h2 := h y (by simp)
    rw [List.map_cons, List.sum_cons, List.length_cons, Nat.add_mul, Nat.one_mul]
    omega
theorem cut_two {y : Str} {a j : Int} (h0 : 0 ≤ a) (hj : 0 ≤ j) : (cutS y none (some a)).length + (cutS y (some (a + j)) none).length ≤ y.length := by
  obtain ⟨m, rfl⟩ : ∃ m : Nat, a = m := ⟨a.toNat, by omega⟩
  obtain ⟨k, rfl⟩ : ∃ k : Nat, j = k := ⟨j.toNat, by omega⟩
  have e1 : (cutS y none (some (m : Int))).length = ((((sl y).drop 0).take (HT.sIx y.length y.length (some (m : Int)) - 0))).length := TL.len_tl _
  have e2 : (cutS y (some ((m : Int) + k)) none).length = ((((sl y).drop (HT.sIx y.length 0 (some ((m + k : Nat) : Int)))).take (y.length - HT.sIx y.length 0 (some ((m + k : Nat) : Int))))).length := TL.len_tl _
  rw [e1, e2, HT.sIx_nat, HT.sIx_nat]
  have hl : (sl y).length = y.length := (TL.len_tl y).symm
  simp only [List.length_take, List.length_drop, hl]
  omega
theorem RelW.box {H H' : Hp} {v : V} {w : Wv} {b : Addr} {n : Int} (h : RelW H v w) (k : Kp [b] H H') (hb : BoxAt H b n) : RelW H' v w := h.kp k fun a ha xs e => by
  rw [List.mem_singleton] at ha
  subst ha
  obtain ⟨_, _, _, eb, _⟩ := hb
  rw [eb] at e; cases e
section
variable {P : Program} {w : World} {K : PySem.W.Frag} {mg : Str → Option Value} {base : Heap}
theorem ok_page (T : Tx K mg) {fd : FuncData} (F : Fun K "_law_page" "_law_page" s__law_page (He.ga K "_law_page") fd) : FnG P w K mg base 1 (He.ga K "_law_page") fd [] spPage := by
  refine FnG.of F sc__law_page (fun vs H Q E h => ?_) (fun cdv A outer s H vs Q E hr h => ?_)
  · obtain ⟨rfl, _⟩ := h; rfl
  · obtain ⟨rfl, q⟩ := h
    refine ⟨_, pss_cons (ps_set (i := 0) sc__law_page.nd rfl (by first | exact Or.inl rfl | exact Or.inr rfl) (pe_str))
      (pss_one (ps_ret (pe_op op_add_str (pv 0) (pe_str)))), ?_⟩
    exact ⟨_, rfl, _, _, rfl, rfl, by decide +kernel, q _ (by decide +kernel) (by unfold lowS; decide +kernel)⟩
theorem ok_lnumber (T : Tx K mg) {fd : FuncData} (F : Fun K "_law_number" "_law_number" s__law_number (He.ga K "_law_number") fd) (c__law_take : Cal P w K mg base 1 "_law_take" spTake) : FnG P w K mg base 2 (He.ga K "_law_number") fd ["_law_box_here"] spNumber := by
  refine FnG.of F sc__law_number (fun vs H Q E h => ?_) (fun cdv A outer s H vs Q E hr h => ?_)
  · obtain ⟨b, n, rfl, _⟩ := h; rfl
  · obtain ⟨b, n, rfl, hb, hn, q⟩ := h
    have p15 : (10 : Int) ^ Int.toNat 15 = 1000000000000000 := by decide +kernel
    have big : (10 ^ 31 : Nat) = 10000000000000000000000000000000 := by decide +kernel
    refine ⟨_, pss_cons (ps_set (i := 1) sc__law_number.nd rfl (by first | exact Or.inl rfl | exact Or.inr rfl) (gc c__law_take (hr.mono (by decide)) takes0 (pa_cons (pv 0) (pa_cons (pe_int) (pa_nil)))))
      (pss_cons (ps_if (pt_cmpR op_eq (pv 1) (pe_int) (by first | exact nomark _ | rfl)) (pss_one (ps_ret (pe_op op_sub (gc c__law_take (hr.mono (by decide)) takes0 (pa_cons (pv 0) (pa_cons (pe_int) (pa_nil)))) (pe_int)))) (pss_nil))
      (pss_cons (ps_if (pt_cmpR op_eq (pv 1) (pe_int) (by first | exact nomark _ | rfl)) (pss_one (ps_ret (pe_ix (kixL K) (pe_lst (pa_cons (pe_int) (pa_cons (pe_int) (pa_cons (pe_op op_pow (pe_int) (pe_int)) (pa_cons (pe_op op_pow (pe_int) (pe_int)) (pa_cons (pe_op op_pow (pe_int) (pe_int)) (pa_cons (pe_op op_sub (pe_op op_pow (pe_int) (pe_int)) (pe_int)) (pa_cons (pe_op op_sub (pe_int) (pe_op op_pow (pe_int) (pe_int))) (pa_cons (pe_op op_sub (pe_op op_pow (pe_int) (pe_int)) (pe_int)) (pa_nil)))))))))) (gc c__law_take (hr.mono (by decide)) takes0 (pa_cons (pv 0) (pa_cons (pe_int) (pa_nil)))) (fun _ _ => rfl)))) (pss_nil))
      (pss_cons (ps_set (i := 2) sc__law_number.nd rfl (by first | exact Or.inl rfl | exact Or.inr rfl) (pe_op op_add (pe_op op_mul (gc c__law_take (hr.mono (by decide)) takes0 (pa_cons (pv 0) (pa_cons (pe_op op_pow (pe_int) (pe_int)) (pa_nil)))) (pe_op op_pow (pe_int) (pe_int))) (gc c__law_take (hr.mono (by decide)) takes0 (pa_cons (pv 0) (pa_cons (pe_op op_pow (pe_int) (pe_int)) (pa_nil))))))
      (pss_one (ps_ret (pe_ix (kixL K) (pe_lst (pa_cons (pv 2) (pa_cons (pe_op op_sub (pe_int) (pv 2)) (pa_nil)))) (pe_op op_sub (pv 1) (pe_int)) (fun _ _ => rfl))))))), ?_⟩
    refine ⟨_, rfl, b, n, 4, rfl, hb, by omega, by decide, by decide, fun H1 way k1 hb1 w0 w1 => ?_⟩
    refine ⟨_, rfl, rfl, _, rfl, iteB (fun _ => ?_) (fun n0 => ?_)⟩
    · refine ⟨_, rfl, b, _, 12, rfl, hb1, by omega, by decide, by decide, fun H2 d k2 hb2 d0 d1 => ⟨_, _, rfl, rfl, q _ _ (k1.kp.trans k2.kp) (hb2.more (by omega)) (by omega)⟩⟩
    have n0' : way ≠ 0 := fun e => by rw [e] at n0; simp at n0
    refine ⟨_, rfl, rfl, _, rfl, iteB (fun _ => ?_) (fun n1 => ?_)⟩
    · refine ⟨_, _, rfl, rfl, ⟨by decide, by decide, by decide⟩, _, _, rfl, rfl, ⟨by decide, by decide, by decide⟩, _, _, rfl, rfl, ⟨by decide, by decide, by decide⟩, _, _, rfl, rfl, ⟨by decide, by decide, by decide⟩, _, _, rfl, rfl, _, _, rfl, rfl, ⟨by decide, by decide, by decide⟩, _, _, rfl, rfl, _, _, rfl, rfl, ⟨by decide, by decide, by decide⟩, _, _, rfl, rfl, (by show 8 ≤ sizeLine; decide), fun r hr => ?_⟩
      obtain ⟨xs, exs⟩ : ∃ xs, xs = [V.int 10, .int 99, .int (10 ^ Int.toNat 9), .int (10 ^ Int.toNat 28), .int (10 ^ Int.toNat 29), .int (10 ^ Int.toNat 30 - 1), .int (1 - 10 ^ Int.toNat 30), .int (10 ^ Int.toNat 20 - 1)] := ⟨_, rfl⟩
      have hx : ∀ x ∈ xs, ∃ z : Int, x = .int z ∧ z.natAbs < 10 ^ 31 := by
        rw [exs]
        intro x hx
        simp only [List.mem_cons, List.not_mem_nil, or_false] at hx
        rcases hx with rfl | rfl | rfl | rfl | rfl | rfl | rfl | rfl <;> exact ⟨_, rfl, by decide +kernel⟩
      have hl8 : xs.length = 8 := by rw [exs]; rfl
      rw [← exs]
      have hb2 := hb1.new (o := .lst xs) hr
      have kn := k1.kp.new (o := .lst xs) hr
      have er : upd H1 r (.lst xs) r = some (.lst xs) := upd_same
      have nr := hb1.ne hr
      generalize upd H1 r (.lst xs) = H2 at *
      refine ⟨_, rfl, b, _, 8, rfl, hb2, by omega, by decide, by decide, fun H3 d k3 hb3 d0 d1 => ?_⟩
      obtain ⟨v, hv, ev⟩ := at_any (xs := xs) d0 (by omega)
      obtain ⟨z, rfl, hz⟩ := hx v hv
      exact ⟨r, _, _, _, rfl, rfl, SqL.of ((k3 r nr).trans er), ev, q _ _ (kn.trans k3.kp) (hb3.more (by omega)) hz⟩
    have n1' : way ≠ 1 := fun e => by rw [e] at n1; simp at n1
    refine ⟨_, rfl, _, _, rfl, rfl, ⟨by decide, by decide, by decide⟩, b, _, _, rfl, hb1, by omega, by decide +kernel, by decide +kernel, fun H2 x k2 hb2 x0 x1 => ?_⟩
    rw [p15] at x1
    refine ⟨_, _, rfl, rfl, ⟨by decide, by decide, by decide⟩, _, _, rfl, rfl, .inl ⟨by omega, by omega⟩, _, rfl, _, _, rfl, rfl, ⟨by decide, by decide, by decide⟩, b, _, _, rfl, hb2, by omega, by decide +kernel, by decide +kernel, fun H3 y k3 hb3 y0 y1 => ?_⟩
    rw [p15] at y1
    rw [p15]
    refine ⟨_, _, rfl, rfl, _, rfl, _, rfl, _, _, rfl, rfl, (by show 2 ≤ sizeLine; decide), fun r hr => ?_⟩
    obtain ⟨v, hv, ev⟩ := at_any (xs := [V.int (x * 1000000000000000 + y), .int (0 - (x * 1000000000000000 + y))]) (i := way - 2) (by omega) (by simp; omega)
    obtain ⟨z, rfl, hz⟩ : ∃ z : Int, v = .int z ∧ z.natAbs < 10 ^ 31 := by
      simp only [List.mem_cons, List.not_mem_nil, or_false] at hv
      rw [big]
      rcases hv with rfl | rfl <;> exact ⟨_, rfl, by omega⟩
    refine ⟨_, rfl, _, _, rfl, rfl, r, _, _, _, rfl, rfl, SqL.of upd_same, ev, q _ _ (((k1.kp.trans k2.kp).trans k3.kp).new hr) ((hb3.new hr).more (by omega)) hz⟩
theorem ok_lvalue (T : Tx K mg) {fd : FuncData} (F : Fun K "_law_value" "_law_value" s__law_value (He.ga K "_law_value") fd) (c__law_take : Cal P w K mg base 1 "_law_take" spTake) (c__law_number : Cal P w K mg base 2 "_law_number" spNumber) : FnG P w K mg base 3 (He.ga K "_law_value") fd ["_law_box_here"] spValue := by
  refine FnG.of F sc__law_value (fun vs H Q E h => ?_) (fun cdv A outer s H vs Q E hr h => ?_)
  · obtain ⟨b, n, rfl, _⟩ := h; rfl
  · obtain ⟨b, n, rfl, hb, hn, q⟩ := h
    have lt40 : ∀ {z : Int}, z.natAbs < 10 ^ 31 → z.natAbs < 10 ^ 40 := fun h => Nat.lt_trans h (by decide +kernel)
    refine ⟨_, pss_cons (ps_set (i := 1) sc__law_value.nd rfl (by first | exact Or.inl rfl | exact Or.inr rfl) (gc c__law_take (hr.mono (by decide)) takes0 (pa_cons (pv 0) (pa_cons (pe_int) (pa_nil)))))
      (pss_cons (ps_if (pt_cmpR op_eq (pv 1) (pe_int) (by first | exact nomark _ | rfl)) (pss_one (ps_ret (pe_non))) (pss_nil))
      (pss_cons (ps_if (pt_cmpR op_lt (pv 1) (pe_int) (by first | exact nomark _ | rfl)) (pss_one (ps_ret (gc c__law_number (hr.mono (by decide)) takes0 (pa_cons (pv 0) (pa_nil))))) (pss_nil))
      (pss_one (ps_ret (pe_tup (pa_cons (pe_callB call_abs (by rfl) T.z_abs (by decide +kernel) (pa_cons (gc c__law_number (hr.mono (by decide)) takes0 (pa_cons (pv 0) (pa_nil))) (pa_nil))) (pa_cons (pe_callB call_abs (by rfl) T.z_abs (by decide +kernel) (pa_cons (gc c__law_number (hr.mono (by decide)) takes0 (pa_cons (pv 0) (pa_nil))) (pa_nil))) (pa_nil)))))))), ?_⟩
    refine ⟨_, rfl, b, n, 5, rfl, hb, by omega, by decide, by decide, fun H1 way k1 hb1 w0 w1 => ?_⟩
    refine ⟨_, rfl, rfl, _, rfl, iteB (fun _ => ?_) (fun n0 => ?_)⟩
    · exact q _ .non .non k1.kp (hb1.more (by omega)) trivial trivial
    refine ⟨_, rfl, _, _, rfl, rfl, _, rfl, iteB (fun _ => ?_) (fun n1 => ?_)⟩
    · exact ⟨_, rfl, b, _, rfl, hb1, by omega, fun H2 z k2 hb2 hz => q _ (.int z) (.int z) (k1.kp.trans k2) (hb2.more (by omega)) rfl (lt40 hz)⟩
    refine ⟨_, rfl, b, _, rfl, hb1, by omega, fun H2 x k2 hb2 hx => ⟨_, rfl, _, rfl, b, _, rfl, hb2, by omega, fun H3 y k3 hb3 hy => ⟨_, rfl, (by show 2 ≤ sizeLine; decide), fun t ht => ?_⟩⟩⟩
    have e1 : (if x < 0 then -x else x) = (x.natAbs : Int) := by split <;> omega
    have e2 : (if y < 0 then -y else y) = (y.natAbs : Int) := by split <;> omega
    rw [e1, e2] at *
    exact q _ (.ref t) (.pair x.natAbs y.natAbs) (((k1.kp.trans k2).trans k3).new ht) ((hb3.new ht).more (by omega)) upd_same ⟨by omega, by omega, by simpa using lt40 hx, by simpa using lt40 hy⟩
theorem ok_ltext (T : Tx K mg) {fd : FuncData} (F : Fun K "_law_text" "_law_text" s__law_text (He.ga K "_law_text") fd) : FnG P w K mg base 1 (He.ga K "_law_text") fd ["_law_value_here"] spLText := by
  refine FnG.of F sc__law_text (fun vs H Q E h => ?_) (fun cdv A outer s H vs Q E hr h => ?_)
  · obtain ⟨v, w, rfl, _⟩ := h; rfl
  · obtain ⟨v, u, rfl, hu, ok, q⟩ := h
    obtain ⟨t, ht, g1, g2, g3, hs⟩ := hu.sh.sh.ty K
    refine ⟨_, pss_cons (ps_if (pt_cmpR op_isN (pv 0) (pe_non) (by first | exact nomark _ | rfl)) (pss_one (ps_ret (pe_str))) (pss_nil))
      (pss_cons (ps_if (pt_val (pe_callB (kisi K) (by rfl) T.z_isinstance (by decide +kernel) (pa_cons (pv 0) (pa_cons (pe_bltn (v := .ty "tuple") (by rfl) T.z_tuple (by decide +kernel) rfl) (pa_nil))))) (pss_one (ps_ret (pe_op op_add_str (pe_op op_add_str (pe_callTy call_str_int (by rfl) T.z_str (by decide +kernel) (pa_cons (pe_ix (kixT K) (pv 0) (pe_int) (fun _ _ => rfl)) (pa_nil))) (pe_str)) (pe_callTy call_str_int (by rfl) T.z_str (by decide +kernel) (pa_cons (pe_ix (kixT K) (pv 0) (pe_int) (fun _ _ => rfl)) (pa_nil)))))) (pss_nil))
      (pss_one (ps_ret (pe_callTy call_str_int (by rfl) T.z_str (by decide +kernel) (pa_cons (pv 0) (pa_nil)))))), ?_⟩
    cases v <;> cases u <;> first | exact False.elim hu | skip
    · exact ⟨_, rfl, rfl, _, rfl, iteT q⟩
    · rename_i i j
      obtain rfl : i = j := hu
      exact ⟨_, rfl, rfl, _, rfl, iteF ⟨_, rfl, _, _, _, _, false, rfl, .ty _, ht, kit_ty hs, _, rfl, iteF ⟨_, rfl, _, rfl, intT_log ok, q⟩⟩⟩
    · rename_i p a b
      have hp : H p = some (.tup [.int a, .int b]) := hu
      obtain ⟨a0, b0, a1, b1⟩ := ok
      rw [tupV_ref hp] at hs
      refine ⟨_, rfl, rfl, _, rfl, iteF ⟨_, rfl, _, _, _, _, true, rfl, .ty _, ht, kit_ty hs, _, rfl, iteT ?_⟩⟩
      refine ⟨_, rfl, p, _, _, _, rfl, rfl, SqT.of hp, rfl, _, rfl, intT_log a1, _, _, rfl, rfl, ?_, _, rfl, p, _, _, _, rfl, rfl, SqT.of hp, rfl, _, rfl, intT_log b1, _, _, rfl, rfl, ?_, ?_⟩
      · have := intT_len a1
        show (intT a).length + (":" : Str).length ≤ sizeLine
        have h9 : (":" : Str).length = 1 := by decide +kernel
        exact Nat.le_trans (by omega) sz200
      · have h1 := intT_len a1
        have h2 := intT_len b1
        show (intT a ++ (":" : Str)).length + (intT b).length ≤ sizeLine
        rw [PySem.Str.length_append]
        have h9 : (":" : Str).length = 1 := by decide +kernel
        exact Nat.le_trans (by omega) sz200
      · exact q
theorem ok_figures (T : Tx K mg) {fd : FuncData} (F : Fun K "_law_figures" "_law_figures" s__law_figures (He.ga K "_law_figures") fd) (c__law_take : Cal P w K mg base 1 "_law_take" spTake) : FnG P w K mg base 2 (He.ga K "_law_figures") fd ["_law_box_here"] spFigures := by
  refine FnG.of F sc__law_figures (fun vs H Q E h => ?_) (fun cdv A outer s H vs Q E hr h => ?_)
  · obtain ⟨b, n, rfl, _⟩ := h; rfl
  · obtain ⟨b, n, rfl, hb, hn, q⟩ := h
    refine ⟨_, pss_cons (ps_set (i := 1) sc__law_figures.nd rfl (by first | exact Or.inl rfl | exact Or.inr rfl) (pe_ix (kixL K) (pe_lst (pa_cons (pe_int) (pa_cons (pe_int) (pa_nil)))) (gc c__law_take (hr.mono (by decide)) takes0 (pa_cons (pv 0) (pa_cons (pe_int) (pa_nil)))) (fun _ _ => rfl)))
      (pss_cons (ps_set (i := 2) sc__law_figures.nd rfl (by first | exact Or.inl rfl | exact Or.inr rfl) (pe_op op_add (pv 1) (gc c__law_take (hr.mono (by decide)) takes0 (pa_cons (pv 0) (pa_cons (pe_int) (pa_nil))))))
      (pss_cons (ps_set (i := 3) sc__law_figures.nd rfl (by first | exact Or.inl rfl | exact Or.inr rfl) (gc c__law_take (hr.mono (by decide)) takes0 (pa_cons (pv 0) (pa_cons (pe_int) (pa_nil)))))
      (pss_one (ps_ret (pe_op op_add_str (pe_ix (kixL K) (pe_lst (pa_cons (pe_str) (pa_cons (pe_str) (pa_cons (pe_str) (pa_cons (pe_str) (pa_cons (pe_str) (pa_cons (pe_str) (pa_nil)))))))) (pv 3) (fun _ _ => rfl)) (pe_join (pe_str) (pe_lc (own := [("_law_k", 4)]) (g := gName 4) (tt := tYes) rfl sc__law_figures.nd (pi_range1 rfl T.z_range (pa_cons (pv 2) (pa_nil))) (blkOk_by (own := [("_law_k", 4)]) (N := ["_law_box_here", "_law_least", "_law_many", "_law_ahead", "_law_k"]) (sc := defScope s__law_figures) (by decide +kernel)) (fun _ _ _ _ _ => pg_name (i := 4) sc__law_figures.nd rfl (by first | exact Or.inl rfl | exact Or.inr rfl)) (fun _ _ _ _ _ => by exact pts_nil) (fun _ _ _ _ _ => by exact pe_ix ix_str (pe_str) (gc c__law_take (hr.mono (by decide)) takes0 (pa_cons (pv 0) (pa_cons (pe_int) (pa_nil)))) (fun _ _ => rfl))))))))), ?_⟩
    refine ⟨(by show 2 ≤ sizeLine; decide), fun r hr => ?_⟩
    have hb1 := hb.new (o := .lst [.int 1, .int 39]) hr
    have kn := (Kp.refl (S := [b]) (H := H)).new (o := .lst [.int 1, .int 39]) hr
    have er : upd H r (.lst [.int 1, .int 39]) r = some (.lst [.int 1, .int 39]) := upd_same
    have nr := hb.ne hr
    generalize upd H r (.lst [.int 1, .int 39]) = H1 at *
    refine ⟨_, rfl, b, n, 2, rfl, hb1, by omega, by decide, by decide, fun H2 d k2 hb2 d0 d1 => ?_⟩
    obtain ⟨lo, elo, lo1, lo2⟩ : ∃ lo : Int, atI [V.int 1, .int 39] d = some (.int lo) ∧ 1 ≤ lo ∧ lo ≤ 39 := by
      have : d = 0 ∨ d = 1 := by omega
      rcases this with rfl | rfl
      · exact ⟨1, rfl, by decide, by decide⟩
      · exact ⟨39, rfl, by decide, by decide⟩
    refine ⟨r, _, _, _, rfl, rfl, SqL.of ((k2 r nr).trans er), elo, ?_⟩
    refine ⟨_, rfl, _, rfl, b, _, 4, rfl, hb2, by omega, by decide, by decide, fun H3 e k3 hb3 e0 e1 => ⟨_, _, rfl, rfl, ?_⟩⟩
    refine ⟨_, rfl, b, _, 6, rfl, hb3, by omega, by decide, by decide, fun H4 a k4 hb4 a0 a1 => ?_⟩
    refine ⟨(by show 6 ≤ sizeLine; decide), fun l hl => ?_⟩
    obtain ⟨xs, exs⟩ : ∃ xs, xs = [V.str "", .str "-", .str "0", .str "+", .str "", .str ""] := ⟨_, rfl⟩
    have hx : ∀ x ∈ xs, ∃ z : Str, x = .str z ∧ z.length ≤ 1 ∧ lowS z := by
      rw [exs]
      intro x hx
      simp only [List.mem_cons, List.not_mem_nil, or_false] at hx
      rcases hx with rfl | rfl | rfl | rfl | rfl | rfl <;> exact ⟨_, rfl, by decide +kernel, by unfold lowS; decide +kernel⟩
    have hl6 : xs.length = 6 := by rw [exs]; rfl
    obtain ⟨v, hv, ev⟩ := at_any (xs := xs) a0 (by omega)
    obtain ⟨y0, rfl, hy0, ly0⟩ := hx v hv
    rw [exs] at ev
    refine ⟨_, rfl, l, _, _, _, rfl, rfl, SqL.of upd_same, ev, ⟨_, rfl⟩, ?_⟩
    have k5 := (((kn.trans k2.kp).trans k3.kp).trans k4.kp).new (o := .lst [V.str "", .str "-", .str "0", .str "+", .str "", .str ""]) hl
    have hb5 := hb4.new (o := .lst [V.str "", .str "-", .str "0", .str "+", .str "", .str ""]) hl
    generalize upd H4 l (.lst [V.str "", .str "-", .str "0", .str "+", .str "", .str ""]) = H5 at *
    refine ⟨_, rfl, _, rfl, by omega, by omega, fun D hD => ?_⟩
    have nD := hb5.ne hD
    refine lc_range (lo := 0) (n := _) (fun i H' => Kp [b] H H' ∧ BoxAt H' b (n + 3 + i) ∧ ∃ ys : List Str, ys.length = i ∧ (∀ y ∈ ys, y.length ≤ 1 ∧ lowS y) ∧ H' D = some (.lst (ys.map V.str))) ⟨k5.new hD, (hb5.new hD).more (by omega), [], rfl, (fun y hy => by cases hy), upd_same⟩ ?_ ?_
    · rintro i H6 hi ⟨k6, hb6, ys, yl, hy, eD⟩
      refine ⟨rfl, _, rfl, b, _, 10, rfl, hb6, by omega, by decide, by decide, fun H7 c k7 hb7 c0 c1 => ?_⟩
      obtain ⟨cc, hcm, hcc⟩ := str_at (z := ("1203456789" : Str)) c0 (by show c < (("1203456789" : Str).length : Int); rw [show ("1203456789" : Str).length = 10 from by decide +kernel]; exact c1)
      refine ⟨_, c, cc, rfl, rfl, by decide +kernel, hcc, _, (k7 D nD).trans eD, ?_, ?_⟩
      · rw [List.length_map]
        exact Nat.lt_of_le_of_lt (m := 100) (by omega) (by decide)
      · refine ⟨fun z o ez nz => (upd_ne (ne_of_none (k5 z o ez nz) hD)).trans ((k6.trans k7.kp) z o ez nz), ?_, ys ++ [⟨#[cc]⟩], by simp [yl], fun y hy2 => ?_, by rw [upd_same, List.map_append]; rfl⟩
        · obtain ⟨x1, x2, x3, eb, r⟩ := hb7
          exact (show BoxAt _ b (n + 3 + (i : Int) + 1) from ⟨x1, x2, x3, (upd_ne nD.symm).trans eb, r⟩).more (by omega)
        · rcases List.mem_append.mp hy2 with h | h
          · exact hy y h
          · rw [List.mem_singleton.mp h]; exact ⟨Nat.le_refl _, low_sign (by unfold lowS; decide +kernel) hcm⟩
    · rintro H6 ⟨k6, hb6, ys, yl, hy, eD⟩
      have hs := sum_le fun y h => (hy y h).1
      have hj := joinT_len "" ys
      have he : ("" : Str).length = 0 := by decide +kernel
      refine ⟨"", D, ys, rfl, rfl, .inl (SqL.of eD), ?_, _, _, rfl, rfl, ?_, ?_⟩
      · rw [he]; omega
      · exact Nat.le_trans (m := 200) (by rw [he] at hj; omega) sz200
      · refine q _ _ k6 (hb6.more (by omega)) ?_ (low_app ly0 (low_join (by unfold lowS; decide +kernel) fun y h => (hy y h).2))
        rw [PySem.Str.length_append]
        rw [he] at hj; omega
theorem ok_bent (T : Tx K mg) {fd : FuncData} (F : Fun K "_law_bent" "_law_bent" s__law_bent (He.ga K "_law_bent") fd) (c__law_take : Cal P w K mg base 1 "_law_take" spTake) (c__law_page : Cal P w K mg base 1 "_law_page" spPage) : FnG P w K mg base 2 (He.ga K "_law_bent") fd ["_law_box_here", "_law_text_here"] spBent := by
  refine FnG.of F sc__law_bent (fun vs H Q E h => ?_) (fun cdv A outer s H vs Q E hr h => ?_)
  · obtain ⟨b, n, z, rfl, _⟩ := h; rfl
  · obtain ⟨b, n, z, rfl, hb, hn, hz, lz, q⟩ := h
    refine ⟨_, pss_cons (ps_set (i := 2) sc__law_bent.nd rfl (by first | exact Or.inl rfl | exact Or.inr rfl) (pv 1))
      (pss_cons (ps_for (passes_of rfl) rfl (pi_range1 rfl T.z_range (pa_cons (pe_op op_add (pe_int) (gc c__law_take (hr.mono (by decide)) takes0 (pa_cons (pv 0) (pa_cons (pe_int) (pa_nil))))) (pa_nil))) (pg_name (i := 3) sc__law_bent.nd rfl (by first | exact Or.inl rfl | exact Or.inr rfl))
        (pss_cons (ps_set (i := 4) sc__law_bent.nd rfl (by first | exact Or.inl rfl | exact Or.inr rfl) (gc c__law_take (hr.mono (by decide)) takes0 (pa_cons (pv 0) (pa_cons (pe_int) (pa_nil)))))
      (pss_cons (ps_set (i := 5) sc__law_bent.nd rfl (by first | exact Or.inl rfl | exact Or.inr rfl) (pe_ix (kixL K) (pe_lst (pa_cons (gc0 c__law_page (hr.mono (by decide)) takes0) (pa_cons (pe_str) (pa_cons (pe_op op_add_str (gc0 c__law_page (hr.mono (by decide)) takes0) (pe_str)) (pa_nil))))) (gc c__law_take (hr.mono (by decide)) takes0 (pa_cons (pv 0) (pa_cons (pe_int) (pa_nil)))) (fun _ _ => rfl)))
      (pss_cons (ps_set (i := 6) sc__law_bent.nd rfl (by first | exact Or.inl rfl | exact Or.inr rfl) (pe_ix ix_str (pv 5) (gc c__law_take (hr.mono (by decide)) takes0 (pa_cons (pv 0) (pa_cons (pe_callB call_len_str (by rfl) T.z_len PySem.boot_len (pa_cons (pv 5) (pa_nil))) (pa_nil)))) (fun _ _ => rfl)))
      (pss_cons (ps_set (i := 7) sc__law_bent.nd rfl (by first | exact Or.inl rfl | exact Or.inr rfl) (gc c__law_take (hr.mono (by decide)) takes0 (pa_cons (pv 0) (pa_cons (pe_op op_add (pe_callB call_len_str (by rfl) T.z_len PySem.boot_len (pa_cons (pv 2) (pa_nil))) (pe_int)) (pa_nil)))))
      (pss_one (ps_set (i := 2) sc__law_bent.nd rfl (by first | exact Or.inl rfl | exact Or.inr rfl) (pe_op op_add_str (pe_op op_add_str (pe_slice sl_str (pv 2) (po_none) (po_some (pv 7))) (pe_ix (kixL K) (pe_lst (pa_cons (pe_str) (pa_cons (pv 6) (pa_cons (pv 6) (pa_cons (pv 6) (pa_nil)))))) (pv 4) (fun _ _ => rfl))) (pe_slice sl_str (pv 2) (po_some (pe_op op_add (pv 7) (pe_ix (kixL K) (pe_lst (pa_cons (pe_int) (pa_cons (pe_int) (pa_cons (pe_int) (pa_cons (pe_int) (pa_nil)))))) (pv 4) (fun _ _ => rfl)))) (po_none))))))))))
      (pss_one (ps_ret (pv 2)))), ?_⟩
    refine ⟨_, rfl, _, rfl, b, n, 2, rfl, hb, by omega, by decide, by decide, fun H1 m k1 hb1 m0 m1 => ⟨_, _, rfl, rfl, ?_⟩⟩
    have h300 : (300 : Nat) ≤ sizeLine := by decide
    refine ⟨_, rfl, by omega, by omega, for_range (lo := 0) (n := _) (fun i σ H' => ∃ (y : Str) (v3 v4 v5 v6 v7 : Option V), σ = [some (.ref b), some (.str z), some (.str y), v3, v4, v5, v6, v7] ∧ (y.length ≤ 100 + i ∧ lowS y) ∧ Kp [b] H H' ∧ BoxAt H' b (n + 1 + 4 * (i : Int))) ⟨z, _, _, _, _, _, rfl, ⟨hz, lz⟩, k1.kp, hb1.more (by omega)⟩ ?_ ?_⟩
    · rintro i σ H2 hi ⟨y, v3, v4, v5, v6, v7, rfl, ⟨hy, ly⟩, k2, hb2⟩
      have hi2 : i < 2 := by omega
      refine ⟨_, rfl, b, _, 4, rfl, hb2, by omega, by decide, by decide, fun H3 way k3 hb3 w0 w1 => ?_⟩
      refine ⟨rfl, fun p1 hp1 lp1 => ⟨rfl, fun p2 hp2 lp2 => ⟨_, _, rfl, rfl, ?_, (by show 3 ≤ sizeLine; decide), fun r hr => ?_⟩⟩⟩
      · show p2.length + ("\n" : Str).length ≤ sizeLine
        rw [show ("\n" : Str).length = 1 from by decide +kernel]
        exact Nat.le_trans (m := 300) (by omega) h300
      obtain ⟨xs, exs⟩ : ∃ xs, xs = [V.str p1, .str "0123456789:-", .str (p2 ++ ("\n" : Str))] := ⟨_, rfl⟩
      have hx : ∀ x ∈ xs, ∃ u : Str, x = .str u ∧ 1 ≤ u.length ∧ u.length ≤ 95 ∧ lowS u := by
        rw [exs]
        intro x hx
        simp only [List.mem_cons, List.not_mem_nil, or_false] at hx
        rcases hx with rfl | rfl | rfl
        · exact ⟨_, rfl, by omega, by omega, lp1⟩
        · exact ⟨_, rfl, by decide +kernel, by decide +kernel, by unfold lowS; decide +kernel⟩
        · refine ⟨_, rfl, ?_, ?_, low_app lp2 (by unfold lowS; decide +kernel)⟩ <;> rw [PySem.Str.length_append, show ("\n" : Str).length = 1 from by decide +kernel] <;> omega
      have hl3 : xs.length = 3 := by rw [exs]; rfl
      rw [← exs]
      have hb4 := hb3.new (o := .lst xs) hr
      have kn := (k2.trans k3.kp).new (o := .lst xs) hr
      have er : upd H3 r (.lst xs) r = some (.lst xs) := upd_same
      have nr := hb3.ne hr
      generalize upd H3 r (.lst xs) = H4 at *
      refine ⟨_, rfl, b, _, 3, rfl, hb4, by omega, by decide, by decide, fun H5 d k5 hb5 d0 d1 => ?_⟩
      obtain ⟨v, hv, ev⟩ := at_any (xs := xs) d0 (by omega)
      obtain ⟨u, rfl, u1, u2, lu⟩ := hx v hv
      refine ⟨r, _, _, _, rfl, rfl, SqL.of ((k5 r nr).trans er), ev, ?_⟩
      have h60 : (95 : Int) < 2 ^ 60 := by decide
      have h61 : (105 : Int) < 2 ^ 60 := by decide
      refine ⟨_, rfl, _, rfl, _, rfl, u, rfl, Nat.le_trans (m := 300) (by omega) h300, b, _, _, rfl, hb5, by omega, by omega, Int.lt_of_le_of_lt (by omega : (u.length : Int) ≤ 95) h60, fun H6 c k6 hb6 c0 c1 => ?_⟩
      obtain ⟨cc, hcm, hcc⟩ := str_at (z := u) c0 c1
      refine ⟨u, c, cc, rfl, rfl, Nat.le_trans (m := 300) (by omega) h300, hcc, ?_⟩
      refine ⟨_, rfl, _, rfl, y, rfl, Nat.le_trans (m := 300) (by omega) h300, _, _, rfl, rfl, b, _, _, rfl, hb6, by omega, by omega, Int.lt_of_le_of_lt (by omega : (y.length : Int) + 1 ≤ 105) h61, fun H7 at_ k7 hb7 a0 a1 => ?_⟩
      refine ⟨_, rfl, _, rfl, _, rfl, y, rfl, Nat.le_trans (m := 300) (by omega) h300, _, rfl, _, rfl, _, rfl, (by show 4 ≤ sizeLine; decide), fun l hl => ?_⟩
      obtain ⟨ws, ews⟩ : ∃ ws, ws = [V.str "", .str ⟨#[cc]⟩, .str ⟨#[cc]⟩, .str ⟨#[cc]⟩] := ⟨_, rfl⟩
      have lc := low_sign lu hcm
      have hw : ∀ x ∈ ws, ∃ u : Str, x = .str u ∧ u.length ≤ 1 ∧ lowS u := by
        rw [ews]
        intro x hx
        simp only [List.mem_cons, List.not_mem_nil, or_false] at hx
        rcases hx with rfl | rfl | rfl | rfl
        · exact ⟨_, rfl, by decide +kernel, by unfold lowS; decide +kernel⟩
        · exact ⟨_, rfl, Nat.le_refl 1, lc⟩
        · exact ⟨_, rfl, Nat.le_refl 1, lc⟩
        · exact ⟨_, rfl, Nat.le_refl 1, lc⟩
      have hw4 : ws.length = 4 := by rw [ews]; rfl
      obtain ⟨v, hv, ev⟩ := at_any (xs := ws) w0 (by omega)
      obtain ⟨g, rfl, hg, lg⟩ := hw v hv
      rw [ews] at ev
      have kl := (((kn.trans k5.kp).trans k6.kp).trans k7.kp).new (o := .lst [V.str "", .str ⟨#[cc]⟩, .str ⟨#[cc]⟩, .str ⟨#[cc]⟩]) hl
      have hb8 := hb7.new (o := .lst [V.str "", .str ⟨#[cc]⟩, .str ⟨#[cc]⟩, .str ⟨#[cc]⟩]) hl
      refine ⟨_, rfl, l, _, _, _, rfl, rfl, SqL.of upd_same, ev, ?_⟩
      generalize upd H7 l (.lst [V.str "", .str ⟨#[cc]⟩, .str ⟨#[cc]⟩, .str ⟨#[cc]⟩]) = H8 at *
      have h1 := cutS_length y none (some at_)
      refine ⟨_, _, rfl, rfl, ?_, ?_⟩
      · show (cutS y none (some at_)).length + g.length ≤ sizeLine
        exact Nat.le_trans (m := 300) (by omega) h300
      refine ⟨_, rfl, _, rfl, (by show 4 ≤ sizeLine; decide), fun l2 hl2 => ?_⟩
      obtain ⟨v2, hv2, ev2⟩ := at_any (xs := [V.int 1, .int 0, .int 1, .int 1]) w0 (by simpa using w1)
      obtain ⟨j, rfl, j0⟩ : ∃ j : Int, v2 = .int j ∧ 0 ≤ j := by
        simp only [List.mem_cons, List.not_mem_nil, or_false] at hv2
        rcases hv2 with rfl | rfl | rfl | rfl <;> exact ⟨_, rfl, by decide⟩
      have kl2 := kl.new (o := .lst [V.int 1, .int 0, .int 1, .int 1]) hl2
      have hb9 := hb8.new (o := .lst [V.int 1, .int 0, .int 1, .int 1]) hl2
      refine ⟨_, rfl, l2, _, _, _, rfl, rfl, SqL.of upd_same, ev2, _, _, rfl, rfl, _, rfl, y, rfl, Nat.le_trans (m := 300) (by omega) h300, _, _, rfl, rfl, ?_, ?_⟩
      · have h2 := cutS_length y (some (at_ + j)) none
        show (cutS y none (some at_) ++ g).length + (cutS y (some (at_ + j)) none).length ≤ sizeLine
        rw [PySem.Str.length_append]
        exact Nat.le_trans (m := 300) (by omega) h300
      · refine ⟨_, _, _, _, _, _, rfl, ⟨?_, low_app (low_app (low_cut ly _ _) lg) (low_cut ly _ _)⟩, kl2, hb9.more (by omega)⟩
        rw [PySem.Str.length_append, PySem.Str.length_append]
        have : (cutS y none (some at_)).length + (cutS y (some (at_ + j)) none).length ≤ y.length := cut_two a0 j0
        omega
    · rintro σ H2 ⟨y, v3, v4, v5, v6, v7, rfl, ⟨hy, ly⟩, k2, hb2⟩
      exact ⟨_, rfl, q _ _ k2 (hb2.more (by omega)) (by omega) ly⟩
end

end Lw
namespace Lw
open PySem PySem.Spec L2 FG
open PyProof.Rows hiding St
/-- what is told of v: a value, or the very thing -/
def TolV (H : Hp) (p : Addr) (v : V) : Option Wv → Prop
  | some w => ∃ u, H p = some (.tup [.str "value", u]) ∧ RelW H u w
  | none => H p = some (.tup [.str "none", v])
def intsV : Option Int → List V
  | some i => [.int i]
  | none => []
def spRead : Sp := fun vs H Q _ => ∃ z : Str, vs = [.str z] ∧ z.length ≤ 4000 ∧ ∀ H' l, Kp [] H H' → H l = none → H' l = some (.lst (intsV (readL (sl z)))) → Q (.ref l) H'
def spDue : Sp := fun vs H Q _ => ∃ v, vs = [v] ∧ Sh H v ∧ (∀ z, strV v = some z → z.length ≤ 4000) ∧ ∀ H' p, Kp [] H H' → H p = none → TolV H' p v (valV v) → Q (.ref p) H'
def spTold : Sp := fun vs H Q _ => ∃ v, (vs = [.int 0, v] ∧ Sh H v ∧ (∀ z, strV v = some z → z.length ≤ 4000) ∧ ∀ H' p, Kp [] H H' → H p = none → TolV H' p v (valV v) → Q (.ref p) H') ∨
  (vs = [.int 1, v] ∧ Th H v ∧ ((∃ w, RelW H v w ∧ okW w ∧ ∀ H' p, Kp [] H H' → H p = none → H' p = some (.tup [.str "value", .str (textOf w)]) → Q (.ref p) H') ∨ (NoVal H v ∧ ∀ H' p, Kp [] H H' → H p = none → H' p = some (.tup [.str "none", v]) → Q (.ref p) H')))
theorem le_dig (c : Nat) : (decide (¬ (([c] : List Nat) < [48])) && decide (¬ (([57] : List Nat) < [c]))) = dig c := by
  unfold dig
  have h1 : (([c] : List Nat) < [48]) ↔ c < 48 := by
    rw [List.cons_lt_cons_iff]
    simp
  have h2 : (([57] : List Nat) < [c]) ↔ 57 < c := by
    rw [List.cons_lt_cons_iff]
    simp
  rw [Bool.eq_iff_iff, Bool.and_eq_true, decide_eq_true_eq, decide_eq_true_eq, decide_eq_true_eq, h1, h2]
  omega
theorem filter_none {l : List Nat} : ((l.filter fun c => !dig c).map fun c => V.str ⟨#[c]⟩).isEmpty = l.all dig := by
  rw [Bool.eq_iff_iff, List.isEmpty_iff, List.map_eq_nil_iff, List.filter_eq_nil_iff, List.all_eq_true]
  constructor
  · intro h c hc
    have := h c hc
    cases hd : dig c with
    | true => rfl
    | false => rw [hd] at this; simp at this
  · intro h c hc
    rw [h c hc]; simp
/-- the figures that the law looks at -/
def bodyL (l : List Nat) : List Nat := if l.head? = some 45 then l.tail else l
theorem body_read (l : List Nat) : readL l = if (1 ≤ (bodyL l).length ∧ (bodyL l).length ≤ 40) ∧ (bodyL l).all dig = true ∧ ((bodyL l).head? = some 48 → l = [48]) then some (if l.head? = some 45 then -(dval (bodyL l)) else dval l) else none := by
  unfold readL bodyL
  by_cases h : l.head? = some 45
  · simp only [if_pos h]
    have hl : l ≠ [48] := fun e => by rw [e] at h; cases h
    by_cases hc : figs l.tail = true ∧ l.tail ≠ [48]
    · rw [if_pos hc, if_pos]
      refine ⟨figs_len hc.1, List.all_eq_true.mpr fun c hm => decide_eq_true (figs_dig hc.1 c hm), fun e => ?_⟩
      rcases figs_ahead hc.1 with z | z
      · exact absurd z hc.2
      · exact absurd e z
    · rw [if_neg hc, if_neg]
      rintro ⟨h1, h2, h3⟩
      refine hc ⟨?_, fun e => hl (h3 (by rw [e]; rfl))⟩
      unfold figs
      rw [decide_eq_true h1, h2, Bool.true_and, Bool.true_and, Bool.or_eq_true]
      right
      exact decide_eq_true fun e => hl (h3 e)
  · simp only [if_neg h]
    by_cases hc : figs l = true
    · rw [if_pos hc, if_pos]
      refine ⟨figs_len hc, List.all_eq_true.mpr fun c hm => decide_eq_true (figs_dig hc c hm), fun e => ?_⟩
      rcases figs_ahead hc with z | z
      · exact z
      · exact absurd e z
    · rw [if_neg hc, if_neg]
      rintro ⟨h1, h2, h3⟩
      refine hc ?_
      unfold figs
      rw [decide_eq_true h1, h2, Bool.true_and, Bool.true_and, Bool.or_eq_true]
      by_cases e : l.head? = some 48
      · exact .inl (decide_eq_true (h3 e))
      · exact .inr (decide_eq_true e)
section
variable {P : Program} {w : World} {K : PySem.W.Frag} {mg : Str → Option Value} {base : Heap}
theorem ok_lread (T : Tx K mg) {fd : FuncData} (F : Fun K "_law_read" "_law_read" s__law_read (He.ga K "_law_read") fd) : FnG P w K mg base 1 (He.ga K "_law_read") fd ["_law_text_here"] spRead := by
  refine FnG.of F sc__law_read (fun vs H Q E h => ?_) (fun cdv A outer s H vs Q E hr h => ?_)
  · obtain ⟨z, rfl, _⟩ := h; rfl
  · obtain ⟨z, rfl, hz, q⟩ := h
    have hz2 : z.length ≤ sizeLine := Nat.le_trans hz (by decide)
    have hl : (sl z).length = z.length := (TL.len_tl z).symm
    refine ⟨_, pss_cons (ps_set (i := 1) sc__law_read.nd rfl (by first | exact Or.inl rfl | exact Or.inr rfl) (pe_slice sl_str (pv 0) (po_some (pe_callTy call_int1 (by rfl) T.z_int (by decide +kernel) (pa_cons (pe_cmpR op_eq (pe_slice sl_str (pv 0) (po_none) (po_some (pe_int))) (pe_str) (by first | exact nomark _ | rfl)) (pa_nil)))) (po_none)))
      (pss_cons (ps_if (PW.pt (pw_or (pt_not (pt_chain op_le op_le (pe_int) (pe_callB call_len_str (by rfl) T.z_len PySem.boot_len (pa_cons (pv 1) (pa_nil))) (pe_int))) (pw_or1 (pt_cmpR (kneE K hr.r.units) (pe_lc (own := [("_law_sign", 2)]) (g := gName 2) rfl sc__law_read.nd (pi_str (pv 1)) (blkOk_by (own := [("_law_sign", 2)]) (N := ["_law_text_here", "_law_figures_here", "_law_sign"]) (sc := defScope s__law_read) (by decide +kernel)) (fun _ _ _ _ _ => pg_name (i := 2) sc__law_read.nd rfl (by first | exact Or.inl rfl | exact Or.inr rfl)) (fun _ _ _ _ _ => by exact pts_one (pt_not (pt_chain op_le_str op_le_str (pe_str) (pv 2) (pe_str)))) (fun _ _ _ _ _ => by exact pv 2)) (pe_lst (pa_nil)) (by first | exact nomark _ | rfl))))) (pss_one (ps_ret (pe_lst (pa_nil)))) (pss_nil))
      (pss_cons (ps_if (PW.pt (pw_and (pt_cmpR op_eq (pe_ix ix_str (pv 1) (pe_int) (fun _ _ => rfl)) (pe_str) (by first | exact nomark _ | rfl)) (pw_and1 (pt_cmpR op_ne (pv 0) (pe_str) (by first | exact nomark _ | rfl))))) (pss_one (ps_ret (pe_lst (pa_nil)))) (pss_nil))
      (pss_one (ps_ret (pe_lst (pa_cons (pe_callTy call_int_str (by rfl) T.z_int (by decide +kernel) (pa_cons (pv 0) (pa_nil))) (pa_nil))))))), ?_⟩
    refine ⟨_, rfl, _, rfl, _, rfl, z, rfl, hz2, rfl, .inr ⟨_, rfl, _, rfl, z, rfl, hz2, ?_⟩⟩
    rw [head_minus]
    obtain ⟨f, ef⟩ : ∃ f, f = cutS z (some (if decide ((sl z).head? = some 45) = true then 1 else 0)) none := ⟨_, rfl⟩
    have eb : sl f = bodyL (sl z) := by
      rw [ef]
      unfold bodyL
      by_cases h : (sl z).head? = some 45
      · rw [decide_eq_true h, if_pos rfl, if_pos h, cut_tail]
      · rw [decide_eq_false h, if_neg (by simp), if_neg h, cut_whole]
    have hf : f.length ≤ z.length := by rw [ef]; exact cutS_length _ _ _
    rw [← ef]
    have hf2 : f.length ≤ sizeLine := Nat.le_trans hf hz2
    have hlf : (sl f).length = f.length := (TL.len_tl f).symm
    have br := body_read (sl z)
    rw [← eb] at br
    walk_at "nx"
    refine cut_if (fun b H2 => Kp [] H H2 ∧ b = !(decide (1 ≤ (sl f).length ∧ (sl f).length ≤ 40) && (sl f).all dig)) (fun Q' q' => ?_) ?_
    · have nb : ∀ {b : Bool}, ¬ (1 ≤ (sl f).length ∧ (sl f).length ≤ 40) → (!(decide (1 ≤ (sl f).length ∧ (sl f).length ≤ 40) && (sl f).all dig)) = true := fun h => by rw [decide_eq_false h]; rfl
      refine ⟨_, rfl, f, rfl, hf2, _, _, rfl, rfl, _, rfl, ?_⟩
      by_cases h1 : (1 : Int) ≤ f.length
      rotate_left
      · rw [decide_eq_false h1]
        exact iteF ⟨_, rfl, iteT (q' _ _ ⟨Kp.refl, (nb (b := true) (by omega)).symm⟩)⟩
      rw [decide_eq_true h1]
      refine iteT ⟨_, _, rfl, rfl, _, rfl, ?_⟩
      by_cases h2 : (f.length : Int) ≤ 40
      rotate_left
      · rw [decide_eq_false h2]
        exact iteT (q' _ _ ⟨Kp.refl, (nb (b := true) (by omega)).symm⟩)
      rw [decide_eq_true h2]
      refine iteF ⟨_, rfl, f, rfl, fun D hD => ?_⟩
      have neD : ∀ b o, H b = some o → b ≠ D := fun b o eb => ne_of_none eb hD
      refine lc_it walk_str (fun i H2 => Kp [] H H2 ∧ H2 D = some (.lst (((f.cps.toList.take i).filter fun c => !dig c).map fun c => V.str ⟨#[c]⟩))) ⟨fun b o eb _ => (upd_ne (neD b o eb)).trans eb, upd_same⟩ (fun _ _ _ _ => trivial) ?_ ?_
      · rintro i x H3 H2 hi ⟨k2, eD⟩ ⟨rfl, c, hc, rfl⟩
        have hc2 : f.cps.toList[i]? = some c := by rw [Array.getElem?_toList]; exact hc
        have z0 : sl ("0" : Str) = [48] := by decide +kernel
        have z9 : sl ("9" : Str) = [57] := by decide +kernel
        have lt1 : (([c] : List Nat) < [48]) ↔ c < 48 := by rw [List.cons_lt_cons_iff]; simp
        have lt2 : (([57] : List Nat) < [c]) ↔ 57 < c := by rw [List.cons_lt_cons_iff]; simp
        have yes : dig c = false → ∃ acc, H2 D = some (.lst acc) ∧ acc.length < sizeLine ∧ (Kp [] H (upd H2 D (.lst (acc ++ [V.str ⟨#[c]⟩]))) ∧ upd H2 D (.lst (acc ++ [V.str ⟨#[c]⟩])) D = some (.lst (((f.cps.toList.take (i + 1)).filter fun c => !dig c).map fun c => V.str ⟨#[c]⟩))) := fun hd => by
          refine ⟨_, eD, ?_, fun b o eb _ => (upd_ne (neD b o eb)).trans (k2 b o eb (by simp)), ?_⟩
          · rw [List.length_map]
            have h9 := List.length_filter_le (fun c => !dig c) (f.cps.toList.take i)
            have h8 : (f.cps.toList.take i).length ≤ f.cps.toList.length := by rw [List.length_take]; omega
            have h7 : f.cps.toList.length = f.length := hlf
            exact Nat.lt_of_le_of_lt (m := 40) (by omega) (by decide)
          · rw [upd_same, sel_yes (fun c => V.str ⟨#[c]⟩) (fun c => !dig c) hc2 (by rw [hd]; rfl)]
        refine ⟨rfl, _, rfl, _, _, rfl, rfl, _, rfl, ?_⟩
        by_cases a1 : c < 48
        · have hd : dig c = false := decide_eq_false (by omega)
          rw [show (!decide (sl (⟨#[c]⟩ : Str) < sl ("0" : Str))) = false from by rw [z0]; show (!decide (([c] : List Nat) < [48])) = false; rw [decide_eq_true (lt1.mpr a1)]; rfl]
          exact iteF ⟨_, rfl, iteT ⟨_, rfl, yes hd⟩⟩
        rw [show (!decide (sl (⟨#[c]⟩ : Str) < sl ("0" : Str))) = true from by rw [z0]; show (!decide (([c] : List Nat) < [48])) = true; rw [decide_eq_false (fun h => a1 (lt1.mp h))]; rfl]
        refine iteT ⟨_, _, rfl, rfl, _, rfl, ?_⟩
        by_cases a2 : 57 < c
        · have hd : dig c = false := decide_eq_false (by omega)
          rw [show (!decide (sl ("9" : Str) < sl (⟨#[c]⟩ : Str))) = false from by rw [z9]; show (!decide (([57] : List Nat) < [c])) = false; rw [decide_eq_true (lt2.mpr a2)]; rfl]
          exact iteT ⟨_, rfl, yes hd⟩
        · have hd : dig c = true := decide_eq_true (by omega)
          rw [show (!decide (sl ("9" : Str) < sl (⟨#[c]⟩ : Str))) = true from by rw [z9]; show (!decide (([57] : List Nat) < [c])) = true; rw [decide_eq_false (fun h => a2 (lt2.mp h))]; rfl]
          refine iteF ⟨k2, ?_⟩
          rw [eD, sel_no (fun c => V.str ⟨#[c]⟩) (fun c => !dig c) hc2 (by rw [hd]; rfl)]
      · rintro H2 ⟨k2, eD⟩
        have h3 : f.cps.toList.take f.cps.size = f.cps.toList := by rw [← Array.length_toList, List.take_length]
        rw [h3] at eD
        refine ⟨by decide, fun l hl2 => ?_⟩
        have nl := ne_of_none eD hl2
        refine ⟨D, l, _, rfl, rfl, SqL.of ((upd_ne nl).trans eD), SqL.of upd_same, _, rfl, ?_⟩
        rw [filter_none]
        refine q' _ _ ⟨k2.new hl2, ?_⟩
        rw [decide_eq_true (by omega), Bool.true_and]
    · rintro b H2 ⟨k2, rfl⟩
      cases hb : (decide (1 ≤ (sl f).length ∧ (sl f).length ≤ 40) && (sl f).all dig) with
      | false =>
        refine iteT ⟨by decide, fun l hl2 => q _ l (k2.new hl2) (k2.free hl2) ?_⟩
        rw [upd_same, br, if_neg]
        · rfl
        · rintro ⟨h1, h2, _⟩
          rw [decide_eq_true h1, h2] at hb
          cases hb
      | true =>
        rw [Bool.and_eq_true] at hb
        have h1 := of_decide_eq_true hb.1
        have had := List.all_eq_true.mp hb.2
        obtain ⟨c, r, er⟩ : ∃ c r, sl f = c :: r := by
          cases e : sl f with
          | nil => rw [e] at h1; simp at h1
          | cons c r => exact ⟨c, r, rfl⟩
        refine iteF ?_
        walk_at "nx"
        refine cut_if (fun b H3 => H3 = H2 ∧ b = decide ((sl f).head? = some 48 ∧ ¬ sl z = [48])) (fun Q' q' => ?_) ?_
        · refine ⟨_, rfl, f, ((0 : Nat) : Int), c, rfl, rfl, hf2, ?_, rfl, _, rfl, ?_⟩
          · exact atI_nat (by rw [show f.cps.toList = c :: r from er]; rfl)
          rw [str_eq_sl, show sl ("0" : Str) = [48] from by decide +kernel, show sl (⟨#[c]⟩ : Str) = [c] from rfl]
          by_cases hc : c = 48
          · rw [decide_eq_true (by rw [hc])]
            refine iteT ⟨_, rfl, rfl, _, rfl, q' _ _ ⟨rfl, ?_⟩⟩
            rw [str_eq_sl, show sl ("0" : Str) = [48] from by decide +kernel, er, hc]
            by_cases hz48 : sl z = [48] <;> simp [hz48]
          · rw [decide_eq_false (by simpa using hc)]
            refine iteF (q' _ _ ⟨rfl, ?_⟩)
            rw [er]; simp [hc]
        · rintro b H3 ⟨rfl, rfl⟩
          by_cases hh : (sl f).head? = some 48 ∧ ¬ sl z = [48]
          · rw [decide_eq_true hh]
            refine iteT ⟨by decide, fun l hl2 => q _ l (k2.new hl2) (k2.free hl2) ?_⟩
            rw [upd_same, br, if_neg]
            · rfl
            · rintro ⟨_, _, h3⟩
              exact hh.2 (h3 hh.1)
          · rw [decide_eq_false hh]
            have e2 : readL (sl z) = some (if (sl z).head? = some 45 then -(dval (sl f)) else dval (sl z)) := by
              rw [br, if_pos]
              refine ⟨h1, hb.2, fun e => Decidable.byContradiction fun n => hh ⟨e, n⟩⟩
            have ei : PySem.intText? z = some (if (sl z).head? = some 45 then -(dval (sl f)) else dval (sl z)) := by
              by_cases h45 : (sl z).head? = some 45
              · rw [if_pos h45]
                have e3 : sl f = (sl z).tail := by rw [eb]; unfold bodyL; rw [if_pos h45]
                obtain ⟨r2, er2⟩ : ∃ r, sl z = 45 :: r := by
                  cases e : sl z with
                  | nil => rw [e] at h45; cases h45
                  | cons c r => rw [e] at h45; injection h45 with h; exact ⟨r, by rw [h]⟩
                rw [er2] at e3
                have e4 : sl f = r2 := e3
                have := PySem.intText_neg (x := z) er2 (fun c hc => of_decide_eq_true (had c (e4 ▸ hc))) (fun e => by rw [e] at e4; rw [e4] at er; cases er) (by omega)
                rw [this, e4]; rfl
              · rw [if_neg h45]
                have e3 : sl f = sl z := by rw [eb]; unfold bodyL; rw [if_neg h45]
                exact PySem.intText_digits (x := z) (fun c hc => of_decide_eq_true (had c (e3 ▸ hc))) (fun e => by have e5 : sl z = [] := e; rw [e5] at e3; rw [e3] at er; cases er) (by omega)
            refine iteF ⟨_, rfl, z, _, rfl, ei, ?_, (by show 1 ≤ sizeLine; decide), fun l hl2 => q _ l (k2.new hl2) (k2.free hl2) ?_⟩
            · have e6 : (sl z).length ≤ (bodyL (sl z)).length + 1 := by
                unfold bodyL
                split
                · rw [List.length_tail]; omega
                · omega
              rw [← eb] at e6
              omega
            · rw [upd_same, e2]; rfl
end

end Lw
namespace Lw
open PySem PySem.Spec L2 FG
open PyProof.Rows hiding St
theorem sh_strV {H : Hp} {v : V} (sh : Sh H v) : ∀ (K : PySem.W.Frag), ∃ t : String, TyX K H v (.type t) ∧ kitB t "str" = some (strV v).isSome := fun K => by
  obtain ⟨t, ht, _, _, hs, _⟩ := sh.ty K
  exact ⟨t, ht, hs⟩
theorem len2 {α : Type} {l : List α} (h : l.length = 2) : ∃ a c, l = [a, c] := by
  match l, h with
  | [a, c], _ => exact ⟨a, c, rfl⟩
theorem dp_ints (K : PySem.W.Frag) {H : Hp} (o : Option Int) : DpAll K H (intsV o) (match o with | some i => [PyData.int i] | none => []) := by
  cases o with
  | none => exact .nil
  | some i => exact .cons (.int i) .nil
def isOne (ps : List Str) : Bool := match ps with
  | [x] => (readL (sl x)).isSome
  | _ => false
def isTwo (z : Str) (ps : List Str) : Bool := match ps with
  | [x, y] => ((readL (sl x)).isSome && (readL (sl y)).isSome) && !decide (45 ∈ sl z)
  | _ => false
theorem joinL_count : ∀ ps : List (List Nat), ps.length ≤ (TL.joinL [58] ps).length + 1
  | [] => by simp
  | [p] => by simp
  | p :: q :: r => by
    have := joinL_count (q :: r)
    show _ ≤ (p ++ ([58] ++ TL.joinL [58] (q :: r))).length + 1
    rw [List.length_append, List.length_append, List.length_singleton, List.length_cons]
    omega
theorem part_count (z : Str) : (Txt.split z colon).length ≤ z.length + 1 := by
  have e := (split_facts z).2.2
  have := joinL_count ((Txt.split z colon).map sl)
  rw [← e, List.length_map] at this
  rw [TL.len_tl z]
  exact this
def rdD (o : Option Int) : PyData := .list (match o with | some i => [PyData.int i] | none => [])
section
variable {P : Program} {w : World} {K : PySem.W.Frag} {mg : Str → Option Value} {base : Heap}
theorem ok_ldue (T : Tx K mg) {fd : FuncData} (F : Fun K "_law_due" "_law_due" s__law_due (He.ga K "_law_due") fd) (c__law_read : Cal P w K mg base 1 "_law_read" spRead) : FnG P w K mg base 2 (He.ga K "_law_due") fd ["_law_thing"] spDue := by
  refine FnG.of F sc__law_due (fun vs H Q E h => ?_) (fun cdv A outer s H vs Q E hr h => ?_)
  · obtain ⟨v, rfl, _⟩ := h; rfl
  · obtain ⟨v, rfl, sh, hl, q⟩ := h
    obtain ⟨t, ht, hs⟩ := sh_strV sh K
    refine ⟨_, pss_cons (ps_if (pt_not (pt_val (pe_callB (kisi K) (by rfl) T.z_isinstance (by decide +kernel) (pa_cons (pv 0) (pa_cons (pe_bltn (v := .ty "str") (by rfl) T.z_str (by decide +kernel) rfl) (pa_nil)))))) (pss_one (ps_ret (pe_tup (pa_cons (pe_str) (pa_cons (pv 0) (pa_nil)))))) (pss_nil))
      (pss_cons (ps_if (pt_cmpR op_eq (pv 0) (pe_str) (by first | exact nomark _ | rfl)) (pss_one (ps_ret (pe_tup (pa_cons (pe_str) (pa_cons (pe_non) (pa_nil)))))) (pss_nil))
      (pss_cons (ps_setLc (i := 1) (own := [("_law_part", 2)]) (g := gName 2) (tt := tYes) rfl sc__law_due.nd rfl rfl (sw_true rfl rfl rfl (by decide +kernel)) (kiL K (pe_split (pv 0) (pe_str))) (blkOk_by (own := [("_law_part", 2)]) (N := ["_law_thing", "_law_parts", "_law_part"]) (sc := defScope s__law_due) (by decide +kernel)) (fun _ _ _ _ _ => pg_name (i := 2) sc__law_due.nd rfl (by first | exact Or.inl rfl | exact Or.inr rfl)) (fun _ _ _ _ _ => by exact pts_nil) (fun _ _ _ _ _ => by exact gc c__law_read (hr.mono (by decide)) takes0 (pa_cons (pv 2) (pa_nil))))
      (pss_cons (ps_if (PW.pt (pw_and (pt_cmpR op_eq (pe_callB (klen K) (by rfl) T.z_len PySem.boot_len (pa_cons (pv 1) (pa_nil))) (pe_int) (by first | exact nomark _ | rfl)) (pw_and1 (pt_cmpR (kneE K hr.r.units) (pe_ix (kixL K) (pv 1) (pe_int) (fun _ _ => rfl)) (pe_lst (pa_nil)) (by first | exact nomark _ | rfl))))) (pss_one (ps_ret (pe_tup (pa_cons (pe_str) (pa_cons (pe_ix (kixL K) (pe_ix (kixL K) (pv 1) (pe_int) (fun _ _ => rfl)) (pe_int) (fun _ _ => rfl)) (pa_nil)))))) (pss_nil))
      (pss_cons (ps_if (PW.pt (pw_and (pt_cmpR op_eq (pe_callB (klen K) (by rfl) T.z_len PySem.boot_len (pa_cons (pv 1) (pa_nil))) (pe_int) (by first | exact nomark _ | rfl)) (pw_and (pt_cmpR (knotInD K hr.u65) (pe_lst (pa_nil)) (pv 1) (by first | exact nomark _ | rfl)) (pw_and1 (pt_cmpR op_notIn_sign (pe_str) (pv 0) (by first | exact nomark _ | rfl)))))) (pss_one (ps_ret (pe_tup (pa_cons (pe_str) (pa_cons (pe_tup (pa_cons (pe_ix (kixL K) (pe_ix (kixL K) (pv 1) (pe_int) (fun _ _ => rfl)) (pe_int) (fun _ _ => rfl)) (pa_cons (pe_ix (kixL K) (pe_ix (kixL K) (pv 1) (pe_int) (fun _ _ => rfl)) (pe_int) (fun _ _ => rfl)) (pa_nil)))) (pa_nil)))))) (pss_nil))
      (pss_one (ps_ret (pe_tup (pa_cons (pe_str) (pa_cons (pv 0) (pa_nil)))))))))), ?_⟩
    cases hv : strV v with
    | none =>
      rw [hv] at hs
      have e : valV v = none := by unfold valV; rw [hv]
      rw [e] at q
      exact ⟨_, rfl, _, _, _, _, false, rfl, .ty _, ht, kit_ty hs, false, rfl, iteT ⟨_, rfl, (by show 2 ≤ sizeLine; decide), fun p hp => q _ p (Kp.refl.new hp) hp upd_same⟩⟩
    | some z =>
      rw [hv] at hs
      have hz := hl z hv
      obtain rfl := strV_some hv
      have ev : valV (.str z) = dueOf z := (due_val z).symm
      rw [ev] at q
      refine ⟨_, rfl, _, _, _, _, true, rfl, .ty _, ht, kit_ty hs, true, rfl, iteF ⟨_, rfl, rfl, _, rfl, ?_⟩⟩
      refine iteB (fun h1 => ?_) (fun h1 => ?_)
      · have e : z = "none" := by
          have := of_decide_eq_true h1; injection this
        subst e
        have e2 : dueOf "none" = some .non := by unfold dueOf; rw [if_pos rfl]
        rw [e2] at q
        exact ⟨(by show 2 ≤ sizeLine; decide), fun p hp => q _ p (Kp.refl.new hp) hp ⟨.non, upd_same, trivial⟩⟩
      have hne : ¬ z = "none" := fun e => by rw [e] at h1; simp at h1
      have e2 : dueOf z = dueP z (Txt.split z colon) := by unfold dueOf; rw [if_neg hne]
      rw [e2] at q
      have hlen : ∀ x ∈ Txt.split z colon, x.length ≤ 4000 := fun x hx => Nat.le_trans (part_len hx) hz
      refine ⟨_, rfl, ⟨z, rfl⟩, z, colon, rfl, rfl, by decide +kernel, Nat.le_trans (m := 4002) (by omega) (by decide), fun p hp => ?_⟩
      have k1 := (Kp.refl (S := []) (H := H)).new (o := .lst ((Txt.split z colon).map V.str)) hp
      have ep : upd H p (.lst ((Txt.split z colon).map V.str)) p = some (.lst ((Txt.split z colon).map V.str)) := upd_same
      generalize upd H p (.lst ((Txt.split z colon).map V.str)) = H1 at *
      have hpc := part_count z
      generalize Txt.split z colon = ps at *
      refine ⟨p, rfl, ⟨_, SqL.of ep⟩, fun D hD => ?_⟩
      have neD : ∀ b o, H1 b = some o → b ≠ D := fun b o eb => ne_of_none eb hD
      refine lc_list (K := K) (a := p) (xs := ps.map V.str) (fun i H2 => Kp [] H1 H2 ∧ ∃ as : List Addr, as.length = i ∧ H2 D = some (.lst (as.map V.ref)) ∧ ∀ (j : Nat) (a : Addr) (x : Str), as[j]? = some a → ps[j]? = some x → a ≠ D ∧ H2 a = some (.lst (intsV (readL (sl x))))) ⟨fun b o eb _ => (upd_ne (neD b o eb)).trans eb, [], rfl, upd_same, fun j a x e => by cases e⟩ (fun i H2 _ ⟨k2, _⟩ => SqL.of (k2 _ _ ep (by simp))) ?_ ?_
      · rintro i x H2 hx ⟨k2, as, la, eD, ha⟩
        rw [List.getElem?_map] at hx
        obtain ⟨y, hy, rfl⟩ := Option.map_eq_some_iff.mp hx
        have hm : y ∈ ps := List.mem_of_getElem? hy
        have hi : i < ps.length := (List.getElem?_eq_some_iff.mp hy).1
        refine ⟨rfl, _, rfl, y, rfl, hlen y hm, fun H3 l k3 hl3 el => ⟨_, k3 _ _ eD (by simp), ?_, ?_⟩⟩
        · rw [List.length_map, la]
          exact Nat.lt_of_lt_of_le (m := 4002) (Nat.lt_of_lt_of_le hi (by omega)) (by decide)
        · have lD : l ≠ D := fun z => by rw [z, eD] at hl3; cases hl3
          refine ⟨fun b o eb nb => (upd_ne (neD b o eb)).trans (k3 b o (k2 b o eb nb) nb), as ++ [l], by simp [la], by rw [upd_same, List.map_append]; rfl, fun j a x e ex => ?_⟩
          by_cases hj : j < as.length
          · rw [List.getElem?_append_left hj] at e
            obtain ⟨n1, e1⟩ := ha j a x e ex
            exact ⟨n1, (upd_ne n1).trans (k3 _ _ e1 (by simp))⟩
          · rw [List.getElem?_append_right (by omega)] at e
            have hj2 : j = as.length := by
              cases hd : j - as.length with
              | zero => omega
              | succ m => rw [hd] at e; cases e
            subst hj2
            rw [Nat.sub_self] at e
            injection e with e
            subst e
            rw [la] at ex
            rw [hy] at ex
            injection ex with ex
            subst ex
            exact ⟨lD, (upd_ne lD).trans el⟩
      rintro H2 ⟨k2, as, la, eD, ha⟩
      rw [List.length_map] at la
      walk_at "nx"
      have kk := k1.trans k2
      refine cut_if (fun b H3 => Kp [] H2 H3 ∧ b = isOne ps) (fun Q' q' => ?_) ?_
      · refine ⟨_, rfl, D, _, rfl, .inl (SqL.of eD), rfl, _, rfl, ?_⟩
        rw [List.length_map, la]
        by_cases h1 : ps.length = 1
        rotate_left
        · rw [decide_eq_false (by intro c; injection c with c; omega)]
          refine iteF (q' _ _ ⟨Kp.refl, ?_⟩)
          match ps, h1 with
          | [], _ => rfl
          | [x], h1 => exact absurd rfl h1
          | x :: y :: r, _ => rfl
        rw [decide_eq_true (show V.int ((ps.length : Nat) : Int) = V.int 1 by rw [h1]; rfl)]
        obtain ⟨x, rfl⟩ : ∃ x, ps = [x] := List.length_eq_one_iff.mp h1
        obtain ⟨a, rfl⟩ : ∃ a, as = [a] := List.length_eq_one_iff.mp la
        obtain ⟨_, ea⟩ := ha 0 a x rfl rfl
        refine iteT ⟨_, rfl, D, _, _, _, rfl, rfl, SqL.of eD, rfl, by decide, fun l hl2 => ?_⟩
        refine ⟨a, l, _, rfl, rfl, SqL.of ((upd_ne (ne_of_none ea hl2)).trans ea), SqL.of upd_same, _, rfl, q' _ _ ⟨Kp.refl.new hl2, ?_⟩⟩
        show _ = (readL (sl x)).isSome
        cases readL (sl x) <;> rfl
      · rintro b H3 ⟨k3, rfl⟩
        cases h1 : isOne ps with
        | true =>
          obtain ⟨x, rfl⟩ : ∃ x, ps = [x] := by
            match ps, h1 with
            | [x], _ => exact ⟨x, rfl⟩
          obtain ⟨i, hr2⟩ := Option.isSome_iff_exists.mp (show (readL (sl x)).isSome = true from h1)
          obtain ⟨a, rfl⟩ : ∃ a, as = [a] := List.length_eq_one_iff.mp la
          obtain ⟨_, ea⟩ := ha 0 a x rfl rfl
          rw [hr2] at ea
          have ea3 := k3 _ _ ea (by simp)
          have eD3 := k3 _ _ eD (by simp)
          have e3 : dueP z [x] = some (.int i) := by show (readL (sl x)).map Wv.int = _; rw [hr2]; rfl
          rw [e3] at q
          exact iteT ⟨_, rfl, D, _, _, _, rfl, rfl, SqL.of eD3, rfl, a, _, _, _, rfl, rfl, SqL.of ea3, rfl, (by show 2 ≤ sizeLine; decide), fun p2 hp2 => q _ p2 ((kk.trans k3).new hp2) ((kk.trans k3).free hp2) ⟨.int i, upd_same, rfl⟩⟩
        | false =>
          have kk3 := kk.trans k3
          have eD3 := k3 _ _ eD (by simp)
          refine iteF ?_
          walk_at "nx"
          refine cut_if (fun b H4 => Kp [] H3 H4 ∧ b = isTwo z ps) (fun Q' q' => ?_) ?_
          · refine ⟨_, rfl, D, _, rfl, .inl (SqL.of eD3), rfl, _, rfl, ?_⟩
            rw [List.length_map, la]
            by_cases h2 : ps.length = 2
            rotate_left
            · rw [decide_eq_false (by intro c; injection c with c; omega)]
              refine iteF (q' _ _ ⟨Kp.refl, ?_⟩)
              match ps, h2 with
              | [], _ => rfl
              | [x], _ => rfl
              | [x, y], h2 => exact absurd rfl h2
              | x :: y :: w :: r, _ => rfl
            rw [decide_eq_true (show V.int ((ps.length : Nat) : Int) = V.int 2 by rw [h2]; rfl)]
            obtain ⟨x, y, rfl⟩ : ∃ x y, ps = [x, y] := len2 h2
            obtain ⟨a, c, rfl⟩ : ∃ a c, as = [a, c] := len2 la
            obtain ⟨_, ea⟩ := ha 0 a x rfl rfl
            obtain ⟨_, ec⟩ := ha 1 c y rfl rfl
            refine iteT ⟨by decide, fun l hl2 => ?_⟩
            have kl := (Kp.refl (S := []) (H := H3)).new (o := .lst []) hl2
            have el : upd H3 l (.lst []) l = some (.lst []) := upd_same
            generalize upd H3 l (.lst []) = H4 at *
            have ea4 := kl _ _ (k3 _ _ ea (by simp)) (by simp)
            have ec4 := kl _ _ (k3 _ _ ec (by simp)) (by simp)
            have eD4 := kl _ _ eD3 (by simp)
            refine ⟨_, rfl, .list [], [rdD (readL (sl x)), rdD (readL (sl y))], .lst (SqL.of el) .nil,
              .lst (SqL.of eD4) (.cons (.lst (SqL.of ea4) (dp_ints K _)) (.cons (.lst (SqL.of ec4) (dp_ints K _)) .nil)), by decide +kernel, ?_, _, rfl, ?_⟩
            · cases readL (sl x) <;> cases readL (sl y) <;> rfl
            · have e9 : (!([rdD (readL (sl x)), rdD (readL (sl y))].any fun z => PyData.eqv z (.list []))) = ((readL (sl x)).isSome && (readL (sl y)).isSome) := by
                cases readL (sl x) <;> cases readL (sl y) <;> rfl
              rw [e9]
              have et : isTwo z [x, y] = (((readL (sl x)).isSome && (readL (sl y)).isSome) && !decide (45 ∈ sl z)) := rfl
              rw [et] at q'
              cases hb : ((readL (sl x)).isSome && (readL (sl y)).isSome) with
              | false =>
                rw [hb, Bool.false_and] at q'
                exact iteF (q' _ _ ⟨kl, rfl⟩)
              | true =>
                rw [hb, Bool.true_and] at q'
                refine iteT ⟨_, rfl, 45, z, by decide +kernel, rfl, _, rfl, q' _ _ ⟨kl, rfl⟩⟩
          · rintro b H4 ⟨k4, rfl⟩
            have kk4 := kk3.trans k4
            have eD4 := k4 _ _ eD3 (by simp)
            cases h2 : isTwo z ps with
            | true =>
              obtain ⟨x, y, rfl⟩ : ∃ x y, ps = [x, y] := by
                match ps, h2 with
                | [x, y], _ => exact ⟨x, y, rfl⟩
              have et : (((readL (sl x)).isSome && (readL (sl y)).isSome) && !decide (45 ∈ sl z)) = true := h2
              rw [Bool.and_eq_true, Bool.and_eq_true] at et
              obtain ⟨⟨e1, e2'⟩, e3'⟩ := et
              obtain ⟨i, hi⟩ := Option.isSome_iff_exists.mp e1
              obtain ⟨j, hj⟩ := Option.isSome_iff_exists.mp e2'
              obtain ⟨a, c, rfl⟩ : ∃ a c, as = [a, c] := len2 la
              obtain ⟨_, ea⟩ := ha 0 a x rfl rfl
              obtain ⟨_, ec⟩ := ha 1 c y rfl rfl
              rw [hi] at ea
              rw [hj] at ec
              have ea4 := k4 _ _ (k3 _ _ ea (by simp)) (by simp)
              have ec4 := k4 _ _ (k3 _ _ ec (by simp)) (by simp)
              have n45 : ¬ 45 ∈ sl z := fun h => by rw [decide_eq_true h] at e3'; cases e3'
              have e4 : dueP z [x, y] = some (.pair i j) := by
                unfold dueP
                simp only [hi, hj, if_neg n45]
              rw [e4] at q
              refine iteT ⟨_, rfl, D, _, _, _, rfl, rfl, SqL.of eD4, rfl, a, _, _, _, rfl, rfl, SqL.of ea4, rfl, _, rfl, D, _, _, _, rfl, rfl, SqL.of eD4, rfl, c, _, _, _, rfl, rfl, SqL.of ec4, rfl, (by show 2 ≤ sizeLine; decide), fun t1 ht1 => ⟨(by show 2 ≤ sizeLine; decide), fun p2 hp2 => ?_⟩⟩
              exact q _ p2 ((kk4.new ht1).new hp2) ((kk4.new ht1).free hp2) ⟨.ref t1, upd_same, (upd_ne (ne_of_none upd_same hp2)).trans upd_same⟩
            | false =>
              have e4 : dueP z ps = none := by
                match ps, h1, h2 with
                | [], _, _ => rfl
                | [x], h1, _ =>
                  have h1' : (readL (sl x)).isSome = false := h1
                  show (readL (sl x)).map Wv.int = none
                  cases hr3 : readL (sl x) with
                  | none => rfl
                  | some i => rw [hr3] at h1'; cases h1'
                | [x, y], _, h2 =>
                  have h2' : (((readL (sl x)).isSome && (readL (sl y)).isSome) && !decide (45 ∈ sl z)) = false := h2
                  unfold dueP
                  cases hi : readL (sl x) with
                  | none => simp only [hi]
                  | some i =>
                    cases hj : readL (sl y) with
                    | none => simp only [hi, hj]
                    | some j =>
                      rw [hi, hj] at h2'
                      by_cases h45 : 45 ∈ sl z
                      · simp only [hi, hj, if_pos h45]
                      · rw [decide_eq_false h45] at h2'; cases h2'
                | x :: y :: w :: r, _, _ => rfl
              rw [e4] at q
              exact iteF ⟨_, rfl, (by show 2 ≤ sizeLine; decide), fun p2 hp2 => q _ p2 (kk4.new hp2) (kk4.free hp2) upd_same⟩
end

end Lw
namespace Lw
open PySem PySem.Spec L2 FG
open PyProof.Rows hiding St
theorem lk1 (v : V) : List.lookup ("found" : Str) [(("found" : Str), v)] = some v := by simp [List.lookup]
/-- an odd thing: a scalar, or a list, a tuple of scalars, or an empty dict -/
def scD : V → PyData → Prop
  | .non, .none => True
  | .bl b, .bool c => b = c
  | .int i, .int j => i = j
  | .str x, .str y => x = y
  | _, _ => False
inductive Scs : List V → List PyData → Prop
  | nil : Scs [] []
  | cons {v : V} {d : PyData} {vs : List V} {ds : List PyData} (h : scD v d) (hs : Scs vs ds) : Scs (v :: vs) (d :: ds)
inductive Od (H : Hp) : V → PyData → Prop
  | sc {v : V} {d : PyData} (h : scD v d) : Od H v d
  | lst {a : Addr} {xs : List V} {ds : List PyData} (e : H a = some (.lst xs)) (n : a ≠ sysModules) (h : Scs xs ds) : Od H (.ref a) (.list ds)
  | tup {a : Addr} {xs : List V} {ds : List PyData} (e : H a = some (.tup xs)) (h : Scs xs ds) : Od H (.ref a) (.tuple ds)
  | emp {a : Addr} (e : H a = some (.dK [])) : Od H (.ref a) (.dict [])
theorem Od.kp {S : List Addr} {H H' : Hp} {v : V} {d : PyData} (o : Od H v d) (k : Kp S H H') (hS : ∀ a ∈ S, v ≠ .ref a) : Od H' v d := by
  cases o with
  | sc h => exact .sc h
  | lst e n h => exact .lst (k _ _ e fun z => hS _ z rfl) n h
  | tup e h => exact .tup (k _ _ e fun z => hS _ z rfl) h
  | emp e => exact .emp (k _ _ e fun z => hS _ z rfl)
theorem Od.kp0 {H H' : Hp} {v : V} {d : PyData} (o : Od H v d) (k : Kp [] H H') : Od H' v d := o.kp k fun _ z => by cases z
theorem sc_dpe {H : Hp} {v : V} {d : PyData} (h : scD v d) : DpE H v d := by
  cases v <;> cases d <;> first | exact False.elim h | skip
  · exact .non
  · have e : _ = _ := h; subst e; exact .bl _
  · have e : _ = _ := h; subst e; exact .int _
  · have e : _ = _ := h; subst e; exact .str _
theorem scs_dpe {H : Hp} {vs : List V} {ds : List PyData} (h : Scs vs ds) : DpEs H vs ds := by
  induction h with
  | nil => exact .nil
  | cons h _ ih => exact .cons (sc_dpe h) ih
theorem Od.dpe {H : Hp} {v : V} {d : PyData} (o : Od H v d) : DpE H v d := by
  cases o with
  | sc h => exact sc_dpe h
  | lst e n h => exact .lst e n (scs_dpe h)
  | tup e h => exact .tup e (scs_dpe h)
  | emp e => exact .emp e
def rpB (d : PyData) : Bool := (d.leavesShort 44 && d.showable) && (decide (d.bulk ≤ 10000) && decide (d.depth ≤ 5))
def moreD : PyData → PyData
  | .list ds => .list (ds ++ [.str "more"])
  | d => d
def scalV : V → Bool
  | .non | .bl _ | .int _ => true
  | _ => false
theorem th_tup {H : Hp} {a : Addr} {xs : List V} (e : H a = some (.tup xs)) (hl : xs.length ≤ 100) (hx : ∀ x ∈ xs, scalV x = true) : Th H (.ref a) := by
  refine ⟨.tup e, fun ys h => ?_⟩
  rw [tupV_ref e] at h
  injection h with h
  subst h
  refine ⟨hl, fun x hm => ?_⟩
  have := hx x hm
  cases x <;> first | exact .non | exact .bl _ | exact .int _ | cases this
theorem lad_box {H : Hp} {l : List (Addr × HO)} (L : ladOk H l) {b : Addr} {n : Int} (x : BoxAt H b n) : BoxAt (lad H l) b n := by
  obtain ⟨x, y, c, e, r⟩ := x
  exact ⟨x, y, c, lad_old L e, r⟩
def spOdd : Sp := fun vs H Q _ => ∃ (b : Addr) (n : Int), vs = [.ref b] ∧ BoxAt H b n ∧ n < 10000000 ∧ ∀ H' v d, Kp [b] H H' → BoxAt H' b (n + 1) → v ≠ .ref b → Od H' v d → NoVal H' v → (rpB d && rpB (moreD d)) = true → Th H' v → Q v H'
section
variable {P : Program} {w : World} {K : PySem.W.Frag} {mg : Str → Option Value} {base : Heap}
theorem ok_told (T : Tx K mg) {fd : FuncData} (F : Fun K "_law_told" "_law_told" s__law_told (He.ga K "_law_told") fd) (c_value_of : Cal P w K mg base 3 "value_of" (spVal K)) (c_value_text : Cal P w K mg base 3 "value_text" (spText K)) : FnG P w K mg base 4 (He.ga K "_law_told") fd ["_law_way", "_law_thing"] spTold := by
  refine FnG.of F sc__law_told (fun vs H Q E h => ?_) (fun cdv A outer s H vs Q E hr h => ?_)
  · obtain ⟨v, ⟨rfl, _⟩ | ⟨rfl, _⟩⟩ := h <;> rfl
  · obtain ⟨v, h⟩ := h
    obtain ⟨way, u, rfl, hvs⟩ : ∃ way u, vs = [.int way, u] ∧ u = v := by
      rcases h with ⟨e, _⟩ | ⟨e, _⟩ <;> exact ⟨_, _, e, rfl⟩
    subst hvs
    refine ⟨_, pss_cons (ps_set (i := 2) sc__law_told.nd rfl (by first | exact Or.inl rfl | exact Or.inr rfl) (pe_tup (pa_cons (pe_str) (pa_cons (pe_non) (pa_nil)))))
      (pss_cons (ps_mix sc__law_told.nd takes0 (fun W pn xe tk po => pss_one (ps_if (pt_cmpR op_eq (pv 0) (pe_int) (by first | exact nomark _ | rfl)) (pss_one (ps_set (i := 2) sc__law_told.nd rfl (by first | exact Or.inl rfl | exact Or.inr rfl) (pe_tup (pa_cons (pe_str) (pa_cons (gc c_value_of (hr.mono (by decide)) tk (pa_cons (pv 1) (pa_nil))) (pa_nil)))))) (pss_one (ps_set (i := 2) sc__law_told.nd rfl (by first | exact Or.inl rfl | exact Or.inr rfl) (pe_tup (pa_cons (pe_str) (pa_cons (gc c_value_text (hr.mono (by decide)) tk (pa_cons (pv 1) (pa_nil))) (pa_nil))))))))
        (.as (i := 3) ⟨rfl, by decide, .inl T.g_NoValue⟩ rfl (by first | rfl | decide +kernel) (fun a oe cls d pn hz hf => pss_one (ps_set (i := 2) sc__law_told.nd rfl (by first | exact Or.inl rfl | exact Or.inr rfl) (pe_tup (pa_cons (pe_str) (pa_cons (pe_xg hz hf (pv 3)) (pa_nil)))))) (.bare ⟨rfl, by decide, .inl T.g_RoomError⟩ (fun a oe cls d pn hz hf => pss_one (ps_set (i := 2) sc__law_told.nd rfl (by first | exact Or.inl rfl | exact Or.inr rfl) (pe_tup (pa_cons (pe_str) (pa_cons (pe_non) (pa_nil)))))) .nil)))
      (pss_one (ps_ret (pv 2)))), ?_⟩
    refine ⟨(by show 2 ≤ sizeLine; decide), fun p0 hp0 => ?_⟩
    have k0 := (Kp.refl (S := []) (H := H)).new (o := .tup [.str "other", .non]) hp0
    generalize upd H p0 (.tup [.str "other", .non]) = H0 at *
    have xn := T.x_NoValue.1
    rcases h with ⟨e, sh, hl, q⟩ | ⟨e, th, h⟩
    · injection e with e _
      injection e with e
      subst e
      refine ⟨_, rfl, rfl, _, rfl, iteT ?_⟩
      refine ⟨_, rfl, u, rfl, sh.kp k0, hl, fun w hw v' H1 k1 hv' => ⟨(by show 2 ≤ sizeLine; decide), fun p hp => ⟨_, rfl, ?_⟩⟩, fun hn d H1 k1 hd ed => ⟨true, T.e_NoValue_NoValue, iteT fun a ha => ?_⟩⟩
      · rw [hw] at q
        exact q _ p ((k0.trans k1).new hp) ((k0.trans k1).free hp) ⟨v', upd_same, hv'.kp0 (Kp.refl.new hp)⟩
      · rw [hn] at q
        refine ⟨_, rfl, rfl, _, d, _, _, _, rfl, xn, (by simp), rfl, ed, lk1 _, (by show 2 ≤ sizeLine; decide), fun p hp => ⟨_, rfl, ?_⟩⟩
        exact q _ p ((k0.trans k1).new hp) ((k0.trans k1).free hp) upd_same
    · injection e with e _
      injection e with e
      subst e
      refine ⟨_, rfl, rfl, _, rfl, iteF ?_⟩
      rcases h with ⟨w, hw, ok, q⟩ | ⟨nv, q⟩
      · refine ⟨_, rfl, u, rfl, th.kp k0, .inl ⟨w, hw.kp0 k0, ok, fun H1 k1 => ⟨(by show 2 ≤ sizeLine; decide), fun p hp => ⟨_, rfl, ?_⟩⟩⟩⟩
        exact q _ p ((k0.trans k1).new hp) ((k0.trans k1).free hp) upd_same
      · have nv0 : NoVal H0 u := ⟨nv.n, nv.i, (th.pairKp k0).trans nv.p⟩
        refine ⟨_, rfl, u, rfl, th.kp k0, .inr ⟨nv0, fun d H1 k1 hd ed => ⟨true, T.e_NoValue_NoValue, iteT fun a ha => ?_⟩⟩⟩
        refine ⟨_, rfl, rfl, _, d, _, _, _, rfl, xn, (by simp), rfl, ed, lk1 _, (by show 2 ≤ sizeLine; decide), fun p hp => ⟨_, rfl, ?_⟩⟩
        exact q _ p ((k0.trans k1).new hp) ((k0.trans k1).free hp) upd_same
theorem ok_odd (T : Tx K mg) {fd : FuncData} (F : Fun K "_law_odd" "_law_odd" s__law_odd (He.ga K "_law_odd") fd) (c__law_take : Cal P w K mg base 1 "_law_take" spTake) : FnG P w K mg base 2 (He.ga K "_law_odd") fd ["_law_box_here"] spOdd := by
  refine FnG.of F sc__law_odd (fun vs H Q E h => ?_) (fun cdv A outer s H vs Q E hr h => ?_)
  · obtain ⟨b, n, rfl, _⟩ := h; rfl
  · obtain ⟨b, n, rfl, hb, hn, q⟩ := h
    refine ⟨_, pss_cons (ps_set (i := 1) sc__law_odd.nd rfl (by first | exact Or.inl rfl | exact Or.inr rfl) (pe_lstN (pa_cons (pe_bl) (pa_cons (pe_bl) (pa_cons (pe_str) (pa_cons (pe_str) (pa_cons (pe_tup (pa_cons (pe_int) (pa_nil))) (pa_cons (pe_tup (pa_cons (pe_int) (pa_cons (pe_int) (pa_cons (pe_int) (pa_nil))))) (pa_cons (pe_tup (pa_cons (pe_int) (pa_cons (pe_un un_neg (pe_int)) (pa_nil)))) (pa_cons (pe_tup (pa_cons (pe_un un_neg (pe_int)) (pa_cons (pe_int) (pa_nil)))) (pa_cons (pe_tup (pa_cons (pe_bl) (pa_cons (pe_int) (pa_nil)))) (pa_cons (pe_tup (pa_cons (pe_int) (pa_cons (pe_non) (pa_nil)))) (pa_cons (pe_lstN (pa_cons (pe_int) (pa_cons (pe_int) (pa_nil)))) (pa_cons (pe_dnewK) (pa_cons (pe_lstN (pa_nil)) (pa_cons (pe_str) (pa_cons (pe_tup (pa_nil)) (pa_nil))))))))))))))))))
      (pss_one (ps_ret (pe_ix (kixL K) (pv 1) (gc c__law_take (hr.mono (by decide)) takes0 (pa_cons (pv 0) (pa_cons (pe_int) (pa_nil)))) (fun _ _ => rfl)))), ?_⟩
    refine ⟨(by show 1 ≤ sizeLine; decide), fun t1 h1 => ⟨(by show 3 ≤ sizeLine; decide), fun t2 h2 => ⟨_, rfl, (by show 2 ≤ sizeLine; decide), fun t3 h3 => ⟨_, rfl, (by show 2 ≤ sizeLine; decide), fun t4 h4 => ⟨(by show 2 ≤ sizeLine; decide), fun t5 h5 => ⟨(by show 2 ≤ sizeLine; decide), fun t6 h6 => ⟨(by show 2 ≤ sizeLine; decide), fun l1 h7 n7 => fun d1 h8 => ⟨(by show 0 ≤ sizeLine; decide), fun l2 h9 n9 => ⟨(by show 0 ≤ sizeLine; decide), fun t7 h10 => ⟨(by show 15 ≤ sizeLine; decide), fun r hr nr => ?_⟩⟩⟩⟩⟩⟩⟩⟩⟩⟩
    have L : ladOk H [(t1, .tup [.int 1]), (t2, .tup [.int 1, .int 2, .int 3]), (t3, .tup [.int 1, .int (-1)]), (t4, .tup [.int (-1), .int 1]), (t5, .tup [.bl true, .int 0]), (t6, .tup [.int 0, .non]), (l1, .lst [.int 1, .int 2]), (d1, .dK []), (l2, .lst []), (t7, .tup []), (r, .lst [.bl true, .bl false, .str "none", .str "3", .ref t1, .ref t2, .ref t3, .ref t4, .ref t5, .ref t6, .ref l1, .ref d1, .ref l2, .str "", .ref t7])] := ⟨h1, h2, h3, h4, h5, h6, h7, h8, h9, h10, hr, trivial⟩
    have hbL := lad_box L hb
    have kL : Kp [b] H (lad H _) := fun c o e _ => lad_old L e
    refine ⟨_, rfl, _, rfl, b, n, 15, rfl, hbL, by omega, by decide, by decide, fun H2 d k2 hb2 d0 d1' => ?_⟩
    have n_t1 : t1 ≠ b := hb.ne (lad_new L 0 rfl)
    have e_t1 := (k2 t1 n_t1).trans (lad_at L 0 rfl)
    have n_t2 : t2 ≠ b := hb.ne (lad_new L 1 rfl)
    have e_t2 := (k2 t2 n_t2).trans (lad_at L 1 rfl)
    have n_t3 : t3 ≠ b := hb.ne (lad_new L 2 rfl)
    have e_t3 := (k2 t3 n_t3).trans (lad_at L 2 rfl)
    have n_t4 : t4 ≠ b := hb.ne (lad_new L 3 rfl)
    have e_t4 := (k2 t4 n_t4).trans (lad_at L 3 rfl)
    have n_t5 : t5 ≠ b := hb.ne (lad_new L 4 rfl)
    have e_t5 := (k2 t5 n_t5).trans (lad_at L 4 rfl)
    have n_t6 : t6 ≠ b := hb.ne (lad_new L 5 rfl)
    have e_t6 := (k2 t6 n_t6).trans (lad_at L 5 rfl)
    have n_l1 : l1 ≠ b := hb.ne (lad_new L 6 rfl)
    have e_l1 := (k2 l1 n_l1).trans (lad_at L 6 rfl)
    have n_d1 : d1 ≠ b := hb.ne (lad_new L 7 rfl)
    have e_d1 := (k2 d1 n_d1).trans (lad_at L 7 rfl)
    have n_l2 : l2 ≠ b := hb.ne (lad_new L 8 rfl)
    have e_l2 := (k2 l2 n_l2).trans (lad_at L 8 rfl)
    have n_t7 : t7 ≠ b := hb.ne (lad_new L 9 rfl)
    have e_t7 := (k2 t7 n_t7).trans (lad_at L 9 rfl)
    have n_r : r ≠ b := hb.ne (lad_new L 10 rfl)
    have e_r := (k2 r n_r).trans (lad_at L 10 rfl)
    have fin : ∀ v dd, atI [V.bl true, .bl false, .str "none", .str "3", .ref t1, .ref t2, .ref t3, .ref t4, .ref t5, .ref t6, .ref l1, .ref d1, .ref l2, .str "", .ref t7] d = some v → v ≠ .ref b → Od H2 v dd → NoVal H2 v → Th H2 v → (rpB dd && rpB (moreD dd)) = true → (rIxL K) (.ref r) (.int d) H2 Q := fun v dd ev nb od nv th c => ⟨r, _, _, _, rfl, rfl, SqL.of e_r, ev, q H2 v dd (kL.trans k2.kp) hb2 nb od nv c th⟩
    have hd : d = 0 ∨ d = 1 ∨ d = 2 ∨ d = 3 ∨ d = 4 ∨ d = 5 ∨ d = 6 ∨ d = 7 ∨ d = 8 ∨ d = 9 ∨ d = 10 ∨ d = 11 ∨ d = 12 ∨ d = 13 ∨ d = 14 := by omega
    rcases hd with rfl | rfl | rfl | rfl | rfl | rfl | rfl | rfl | rfl | rfl | rfl | rfl | rfl | rfl | rfl
    · exact fin _ (.bool true) rfl (fun c => by cases c) (.sc rfl) ⟨(fun c => by cases c), rfl, rfl⟩ ⟨.bl _, fun xs e => by cases e⟩ (by decide +kernel)
    · exact fin _ (.bool false) rfl (fun c => by cases c) (.sc rfl) ⟨(fun c => by cases c), rfl, rfl⟩ ⟨.bl _, fun xs e => by cases e⟩ (by decide +kernel)
    · exact fin _ (.str "none") rfl (fun c => by cases c) (.sc rfl) ⟨(fun c => by cases c), rfl, rfl⟩ ⟨.str _ (by decide +kernel), fun xs e => by cases e⟩ (by decide +kernel)
    · exact fin _ (.str "3") rfl (fun c => by cases c) (.sc rfl) ⟨(fun c => by cases c), rfl, rfl⟩ ⟨.str _ (by decide +kernel), fun xs e => by cases e⟩ (by decide +kernel)
    · exact fin _ (.tuple [.int 1]) rfl (fun c => by injection c with c; exact n_t1 c) (.tup e_t1 (.cons rfl .nil)) ⟨(fun c => by cases c), rfl, by unfold pairV; rw [tupV_ref e_t1]; rfl⟩ (th_tup e_t1 (by decide) (by simp [scalV])) (by decide +kernel)
    · exact fin _ (.tuple [.int 1, .int 2, .int 3]) rfl (fun c => by injection c with c; exact n_t2 c) (.tup e_t2 (.cons rfl (.cons rfl (.cons rfl .nil)))) ⟨(fun c => by cases c), rfl, by unfold pairV; rw [tupV_ref e_t2]; rfl⟩ (th_tup e_t2 (by decide) (by simp [scalV])) (by decide +kernel)
    · exact fin _ (.tuple [.int 1, .int (-1)]) rfl (fun c => by injection c with c; exact n_t3 c) (.tup e_t3 (.cons rfl (.cons rfl .nil))) ⟨(fun c => by cases c), rfl, by unfold pairV; rw [tupV_ref e_t3]; rfl⟩ (th_tup e_t3 (by decide) (by simp [scalV])) (by decide +kernel)
    · exact fin _ (.tuple [.int (-1), .int 1]) rfl (fun c => by injection c with c; exact n_t4 c) (.tup e_t4 (.cons rfl (.cons rfl .nil))) ⟨(fun c => by cases c), rfl, by unfold pairV; rw [tupV_ref e_t4]; rfl⟩ (th_tup e_t4 (by decide) (by simp [scalV])) (by decide +kernel)
    · exact fin _ (.tuple [.bool true, .int 0]) rfl (fun c => by injection c with c; exact n_t5 c) (.tup e_t5 (.cons rfl (.cons rfl .nil))) ⟨(fun c => by cases c), rfl, by unfold pairV; rw [tupV_ref e_t5]; rfl⟩ (th_tup e_t5 (by decide) (by simp [scalV])) (by decide +kernel)
    · exact fin _ (.tuple [.int 0, .none]) rfl (fun c => by injection c with c; exact n_t6 c) (.tup e_t6 (.cons rfl (.cons trivial .nil))) ⟨(fun c => by cases c), rfl, by unfold pairV; rw [tupV_ref e_t6]; rfl⟩ (th_tup e_t6 (by decide) (by simp [scalV])) (by decide +kernel)
    · exact fin _ (.list [.int 1, .int 2]) rfl (fun c => by injection c with c; exact n_l1 c) (.lst e_l1 (by assumption) (.cons rfl (.cons rfl .nil))) ⟨(fun c => by cases c), rfl, by simp [pairV, tupV, e_l1]⟩ ⟨.lst e_l1, fun xs e => by simp [tupV, e_l1] at e⟩ (by decide +kernel)
    · exact fin _ (.dict []) rfl (fun c => by injection c with c; exact n_d1 c) (.emp e_d1) ⟨(fun c => by cases c), rfl, by simp [pairV, tupV, e_d1]⟩ ⟨.dK e_d1, fun xs e => by simp [tupV, e_d1] at e⟩ (by decide +kernel)
    · exact fin _ (.list []) rfl (fun c => by injection c with c; exact n_l2 c) (.lst e_l2 (by assumption) .nil) ⟨(fun c => by cases c), rfl, by simp [pairV, tupV, e_l2]⟩ ⟨.lst e_l2, fun xs e => by simp [tupV, e_l2] at e⟩ (by decide +kernel)
    · exact fin _ (.str "") rfl (fun c => by cases c) (.sc rfl) ⟨(fun c => by cases c), rfl, rfl⟩ ⟨.str _ (by decide +kernel), fun xs e => by cases e⟩ (by decide +kernel)
    · exact fin _ (.tuple []) rfl (fun c => by injection c with c; exact n_t7 c) (.tup e_t7 .nil) ⟨(fun c => by cases c), rfl, by unfold pairV; rw [tupV_ref e_t7]; rfl⟩ (th_tup e_t7 (by decide) (by simp [scalV])) (by decide +kernel)
end

end Lw
namespace Lw
open PySem PySem.Spec L2 FG
open PyProof.Rows hiding St
/-- one sign, n times -/
theorem op_mulS {X : Cx} : OpR X (binaryOp .Mult) (fun x y H Q => ∃ (z : Str) (c : Nat) (n : Int), x = .str z ∧ y = .int n ∧ sl z = [c] ∧ 0 ≤ n ∧ n ≤ 100000 ∧ Q (.str ⟨(List.replicate n.toNat c).toArray⟩) H) := by
  intro pins s σ H x y v u Q I rx ry h
  obtain ⟨z, c, n, rfl, rfl, hz, h0, h1, q⟩ := h
  obtain ⟨t, rfl⟩ := rx
  obtain ⟨t', rfl⟩ := ry
  obtain rfl : z = ⟨#[c]⟩ := TL.ext_tl hz
  have e : Txt.mul ⟨#[c]⟩ n = ⟨(List.replicate n.toNat c).toArray⟩ := TL.ext_tl (PyProof.Rows.mul_one_list c n)
  refine PySem.SB.mul ⟨?_, ?_, ?_⟩ fun t'' k => ?_
  · rw [Bool.or_eq_false_iff]
    exact ⟨decide_eq_false (by omega), decide_eq_false (by omega)⟩
  · intro h2 _ h3
    have h4 : (1 : Int) ≤ (2 ^ 63 - 1) / n := by
      rw [Int.le_ediv_iff_mul_le (by omega)]
      omega
    have h5 : (((⟨#[c]⟩ : Str).length : Nat) : Int) = 1 := rfl
    rw [h5] at h3
    omega
  · intro _ _
    show PySem.Builtin.Str.tooLong (1 * n.toNat) = false
    exact decide_eq_false (by show ¬ (1 * n.toNat > sizeLine); have : (100000 : Nat) ≤ sizeLine := by decide
                              omega)
  · rw [e]
    exact ⟨.str _, H, I.tok _, ⟨_, rfl⟩, q⟩
theorem rp_ok {d : PyData} (h : rpB d = true) : d.leavesShort 44 = true ∧ d.showable = true ∧ d.bulk ≤ 10000 ∧ d.depth ≤ 5 := by
  unfold rpB at h
  rw [Bool.and_eq_true, Bool.and_eq_true, Bool.and_eq_true, decide_eq_true_eq, decide_eq_true_eq] at h
  exact ⟨h.1.1, h.1.2, h.2.1, h.2.2⟩
/-- ("none", v), ("value", v): its text fits -/
theorem shw_told {K : PySem.W.Frag} {H : Hp} {p : Addr} {s : Str} {v : V} {d : PyData} (e : H p = some (.tup [.str s, v])) (hd : DpE H v d) (h : rpB d = true) (hs : rpB (.str s) = true) : Shw K H (.ref p) (.tuple [.str s, d]) := by
  obtain ⟨h1, h2, h3, h4⟩ := rp_ok h
  obtain ⟨g1, g2, g3, g4⟩ := rp_ok hs
  refine ⟨.inr (.tup e (.cons (.str s) (.cons hd .nil))), ?_, ?_, ?_⟩
  · simp only [PyData.showable, PyData.showableAll, h2, Bool.and_true, Bool.true_and]
  · have hb : PyData.bulk (.tuple [.str s, d]) ≤ 30000 := by
      simp only [PyData.bulk, PyData.bulkAll] at g3 ⊢
      omega
    have := PyData.shown_le_bulk 44 (by decide) (.tuple [.str s, d]) (by simp only [PyData.leavesShort, PyData.leavesShortAll, Bool.and_true, Bool.and_eq_true] at g1 ⊢; exact ⟨g1, h1⟩)
    have h9 : (2000000 : Nat) ≤ sizeLine := by decide
    omega
  · simp only [PyData.depth, PyData.depthAll]
    omega
theorem rp_none : rpB (.str "none") = true := by decide +kernel
theorem rp_value : rpB (.str "value") = true := by decide +kernel
theorem rp_str {z : Str} (hl : z.length ≤ 4000) (h : lowS z) : rpB (.str z) = true := by
  unfold rpB
  have h1 : (PyData.str z).leavesShort 44 = true := by
    simp only [PyData.leavesShort]
    exact List.all_eq_true.mpr fun c hc => decide_eq_true (Nat.lt_trans (low_mem h hc) (by decide))
  have h2 : (PyData.str z).showable = true := by simp only [PyData.showable]
  have h3 : (PyData.str z).bulk ≤ 10000 := by
    simp only [PyData.bulk]
    have : z.cps.size = z.length := rfl
    omega
  have h4 : (PyData.str z).depth ≤ 5 := by simp only [PyData.depth]; omega
  rw [h1, h2, decide_eq_true h3, decide_eq_true h4]; rfl
def dW : Wv → PyData
  | .non => .none
  | .int i => .int i
  | .pair a b => .tuple [.int a, .int b]
theorem rel_dpe {H : Hp} {v : V} {w : Wv} (h : RelW H v w) : DpE H v (dW w) := by
  cases v <;> cases w <;> first | exact False.elim h | skip
  · exact .non
  · have e : _ = _ := h; subst e; exact .int _
  · exact .tup h (.cons (.int _) (.cons (.int _) .nil))
theorem rp_int {i : Int} (h : i.natAbs < 10 ^ 40) : (PyData.int i).leavesShort 44 = true ∧ (PyData.int i).showable = true := by
  refine ⟨?_, ?_⟩
  · simp only [PyData.leavesShort, decide_eq_true_eq]
    have : (PyData.shown (.int i)).length = (intT i).length := rfl
    have := intT_len h
    omega
  · simp only [PyData.showable, decide_eq_true_eq]; exact intT_log h
theorem rp_w {w : Wv} (h : okW w) : rpB (dW w) = true := by
  cases w with
  | non => decide +kernel
  | int i =>
    obtain ⟨a, b⟩ := rp_int h
    unfold rpB dW
    simp only [a, b, PyData.bulk, PyData.depth]; rfl
  | pair x y =>
    obtain ⟨a, b⟩ := rp_int h.2.2.1
    obtain ⟨c, d⟩ := rp_int h.2.2.2
    unfold rpB dW
    simp only [PyData.leavesShort, PyData.leavesShortAll] at a c ⊢
    simp only [PyData.showable, PyData.showableAll] at b d ⊢
    simp only [a, b, c, d, PyData.bulk, PyData.bulkAll, PyData.depth, PyData.depthAll]; rfl
theorem eqv_self {d : PyData} (h : SeqAt.shaped d = true) : PyData.eqv d d = true := by
  unfold SeqAt.shaped at h
  rw [Bool.and_eq_true] at h
  exact SeqAt.eqv_refl d h.1
theorem shaped_txt {s z : Str} (hs : lowS s) (hz : lowS z) : SeqAt.shaped (.tuple [.str s, .str z]) = true := by
  have g : ∀ {x : Str}, lowS x → PyData.strOk x = true := fun {x} h => by
    unfold PyData.strOk
    rw [Array.all_eq_true']
    intro c hc
    have := low_mem h (by simpa using hc)
    exact decide_eq_true (by omega)
  unfold SeqAt.shaped
  simp only [PyData.canLay0, PyData.canLayAll0, g hs, g hz, PyData.depth, PyData.depthAll]; rfl
theorem iteF_ne {v : V} {A B : Prop} (h : B) : if (!decide (v = v)) = true then A else B := by rw [decide_eq_true rfl]; exact iteF h
theorem iteF_neQ {v : V} {Q' : Bool → Hp → Prop} {H : Hp} (h : Q' false H) : Q' (!decide (v = v)) H := by rw [decide_eq_true rfl]; exact h
theorem text_len {w : Wv} (h : okW w) : (textOf w).length ≤ 100 := by
  cases w with
  | non => decide +kernel
  | int i => have := intT_len (show i.natAbs < 10 ^ 40 from h); show (intT i).length ≤ 100; omega
  | pair a b =>
    have h1 := intT_len h.2.2.1
    have h2 := intT_len h.2.2.2
    show (intT a ++ colon ++ intT b).length ≤ 100
    rw [PySem.Str.length_append, PySem.Str.length_append, show colon.length = 1 from by decide +kernel]
    omega
theorem scs_ref {xs : List V} {ds : List PyData} (h : Scs xs ds) : ∀ x ∈ xs, ∀ a, x ≠ .ref a := by
  induction h with
  | nil => intro x hx; cases hx
  | @cons v d vs ds h _ ih =>
    intro x hx a e
    rcases List.mem_cons.mp hx with z | z
    · rw [← z, e] at h
      cases d <;> exact h
    · exact ih x z a e
theorem Od.tupk {S : List Addr} {H H' : Hp} {v : V} {d : PyData} (o : Od H v d) (k : Kp S H H') (hS : ∀ a ∈ S, v ≠ .ref a) : tupV H' v = tupV H v := by
  cases o with
  | sc h => cases v <;> cases d <;> first | exact False.elim h | rfl
  | lst e n h => simp only [tupV, e, k _ _ e fun z => hS _ z rfl]
  | tup e h => simp only [tupV, e, k _ _ e fun z => hS _ z rfl]
  | emp e => simp only [tupV, e, k _ _ e fun z => hS _ z rfl]
theorem Od.thk {S : List Addr} {H H' : Hp} {v : V} {d : PyData} (o : Od H v d) (th : Th H v) (k : Kp S H H') (hS : ∀ a ∈ S, v ≠ .ref a) : Th H' v := by
  have et := o.tupk k hS
  refine ⟨?_, fun xs h => ?_⟩
  · have sh := th.sh
    cases o with
    | sc h => cases v <;> cases d <;> first | exact False.elim h | skip
              · exact .non
              · exact .bl _
              · exact .int _
              · cases sh; exact .str _ (by assumption)
    | lst e n h => exact .lst (k _ _ e fun z => hS _ z rfl)
    | tup e h => exact .tup (k _ _ e fun z => hS _ z rfl)
    | emp e => exact .dK (k _ _ e fun z => hS _ z rfl)
  · rw [et] at h
    obtain ⟨h1, h2⟩ := th.el xs h
    refine ⟨h1, fun x hx => ?_⟩
    have sh := h2 x hx
    have nr : ∀ a, x ≠ .ref a := by
      cases o with
      | sc h' => cases v <;> cases d <;> first | exact False.elim h' | cases h
      | lst e n h' => simp [tupV, e] at h
      | tup e h' => rw [tupV_ref e] at h; injection h with h; subst h; exact scs_ref h' x hx
      | emp e => simp [tupV, e] at h
    cases sh with
    | non => exact .non
    | bl b => exact .bl b
    | int z => exact .int z
    | str z hz => exact .str z hz
    | lst e => exact absurd rfl (nr _)
    | tup e => exact absurd rfl (nr _)
    | dK e => exact absurd rfl (nr _)
def isL : PyData → Bool
  | .list _ => true
  | _ => false
theorem Od.tyl {H : Hp} {v : V} {d : PyData} (K : PySem.W.Frag) (o : Od H v d) : ∃ t : String, TyX K H v (.type t) ∧ kitB t "list" = some (isL d) ∧ kitB t "str" = some (strV v).isSome := by
  cases o with
  | sc h =>
    cases v <;> cases d <;> first | exact False.elim h | skip
    · exact ⟨_, .base .non, by show _ = some false; decide +kernel, by show _ = some false; decide +kernel⟩
    · exact ⟨_, .base (.bl _), by show _ = some false; decide +kernel, by show _ = some false; decide +kernel⟩
    · exact ⟨_, .base (.int _), by show _ = some false; decide +kernel, by show _ = some false; decide +kernel⟩
    · exact ⟨_, .base (.str _), by show _ = some false; decide +kernel, by show _ = some true; decide +kernel⟩
  | lst e n h => exact ⟨_, .base (.lst e), by show _ = some true; decide +kernel, by show _ = some false; decide +kernel⟩
  | tup e h => exact ⟨_, .base (.tup e), by show _ = some false; decide +kernel, by show _ = some false; decide +kernel⟩
  | emp e => exact ⟨_, .base (.dK e), by show _ = some false; decide +kernel, by show _ = some false; decide +kernel⟩
/-- what is asked -/
structure Ask (H : Hp) (v : V) (d : PyData) : Prop where
  od : Od H v d
  th : Th H v
  ln : ∀ z, strV v = some z → z.length ≤ 4000
  lo : ∀ z, strV v = some z → lowS z
  r1 : rpB d = true
  r2 : rpB (moreD d) = true
theorem Ask.kp {S : List Addr} {H H' : Hp} {v : V} {d : PyData} (x : Ask H v d) (k : Kp S H H') (hS : ∀ a ∈ S, v ≠ .ref a) (th : Th H' v) : Ask H' v d := ⟨x.od.kp k hS, th, x.ln, x.lo, x.r1, x.r2⟩
theorem Ask.kp0 {H H' : Hp} {v : V} {d : PyData} (x : Ask H v d) (k : Kp [] H H') : Ask H' v d := ⟨x.od.kp0 k, x.th.kp k, x.ln, x.lo, x.r1, x.r2⟩
def spLong : Sp := fun vs H Q _ => ∃ (b : Addr) (n : Int), vs = [.ref b] ∧ BoxAt H b n ∧ n < 10000000 ∧ ∀ H', Kp [b] H H' → Q (.bl true) H'
def spLaw (K : PySem.W.Frag) : Sp := fun vs H Q _ => ∃ (a : Addr) (ns : List Int), vs = [.ref a] ∧ ns.length ≤ 63 ∧ Scr K H a ns ∧ ∀ H', Q (.bl true) H'
def spRight : Sp := fun vs H Q _ => ∃ v d, vs = [v] ∧ Ask H v d ∧ ∀ H', Kp [] H H' → Q (.bl true) H'
theorem Scs.more {xs : List V} {ds : List PyData} (h : Scs xs ds) : Scs (xs ++ [.str "more"]) (ds ++ [.str "more"]) := by
  induction h with
  | nil => exact .cons rfl .nil
  | cons h _ ih => exact .cons h ih
theorem Scs.len {xs : List V} {ds : List PyData} (h : Scs xs ds) : xs.length = ds.length := by
  induction h with
  | nil => rfl
  | cons _ _ ih => simp [ih]
theorem bulk_len : ∀ ds : List PyData, ds.length ≤ PyData.bulkAll ds
  | [] => Nat.le_refl _
  | d :: ds => by have := bulk_len ds; simp only [PyData.bulkAll, List.length_cons]; omega
section
variable {P : Program} {w : World} {K : PySem.W.Frag} {mg : Str → Option Value} {base : Heap}
theorem ok_right (T : Tx K mg) {fd : FuncData} (F : Fun K "_law_right" "_law_right" s__law_right (He.ga K "_law_right") fd) (c__law_due : Cal P w K mg base 2 "_law_due" spDue) (c__law_told : Cal P w K mg base 4 "_law_told" spTold) : FnG P w K mg base 5 (He.ga K "_law_right") fd ["_law_thing"] spRight := by
  refine FnG.of F sc__law_right (fun vs H Q E h => ?_) (fun cdv A outer s H vs Q E hr h => ?_)
  · obtain ⟨v, d, rfl, _⟩ := h; rfl
  · obtain ⟨v, d, rfl, ak, q⟩ := h
    refine ⟨_, pss_cons (ps_set (i := 1) sc__law_right.nd rfl (by first | exact Or.inl rfl | exact Or.inr rfl) (gc c__law_due (hr.mono (by decide)) takes0 (pa_cons (pv 0) (pa_nil))))
      (pss_cons (ps_set (i := 2) sc__law_right.nd rfl (by first | exact Or.inl rfl | exact Or.inr rfl) (gc c__law_told (hr.mono (by decide)) takes0 (pa_cons (pe_int) (pa_cons (pv 0) (pa_nil)))))
      (pss_cons (ps_if (PW.pt (pw_or (pt_cmpR op_ne (krepr K hr T.z_repr (pv 2)) (krepr K hr T.z_repr (pv 1)) (by first | exact nomark _ | rfl)) (pw_or1 (PW.pt (pw_and (pt_cmpR op_eq (pe_ix (kixT K) (pv 1) (pe_int) (fun _ _ => rfl)) (pe_str) (by first | exact nomark _ | rfl)) (pw_and1 (pt_cmpR (kneD K hr.r.units) (gc c__law_told (hr.mono (by decide)) takes0 (pa_cons (pe_int) (pa_cons (pe_ix (kixT K) (pv 2) (pe_int) (fun _ _ => rfl)) (pa_nil)))) (pe_tup (pa_cons (pe_str) (pa_cons (pv 0) (pa_nil)))) (by first | exact nomark _ | rfl)))))))) (pss_one (ps_ret (pe_bl))) (pss_nil))
      (pss_cons (ps_if (pt_val (pe_callB (kisi K) (by rfl) T.z_isinstance (by decide +kernel) (pa_cons (pv 0) (pa_cons (pe_bltn (v := .ty "list") (by rfl) T.z_list (by decide +kernel) rfl) (pa_nil))))) (pss_cons (ps_expr (kbm K PySem.F.plainAttrs_list PySem.F.slot_list_append PySem.F.type_list_append mt_append (pv 0) (pa_cons (pe_str) (pa_nil))))
      (pss_cons (ps_if (pt_cmpR op_ne (krepr K hr T.z_repr (pv 2)) (krepr K hr T.z_repr (pe_tup (pa_cons (pe_str) (pa_cons (pv 0) (pa_nil))))) (by first | exact nomark _ | rfl)) (pss_one (ps_ret (pe_bl))) (pss_nil))
      (pss_one (ps_expr (kbm0 K PySem.F.plainAttrs_list PySem.F.slot_list_pop PySem.F.type_list_pop mt_pop (pv 0)))))) (pss_nil))
      (pss_one (ps_ret (pe_bl)))))), ?_⟩
    refine ⟨_, rfl, v, rfl, ak.th.sh, ak.ln, fun H1 p1 k1 hp1 t1 => ?_⟩
    have ak1 := ak.kp0 k1
    refine ⟨_, rfl, v, .inl ⟨rfl, ak1.th.sh, ak1.ln, fun H2 p2 k2 hp2 t2 => ?_⟩⟩
    have ak2 := ak1.kp0 k2
    have kk := k1.trans k2
    walk_at "nx"
    refine cut_if (fun b H3 => b = false ∧ Kp [] H2 H3) (fun Q' q' => ?_) ?_
    · cases hv : valV v with
      | some w =>
        rw [hv] at t1 t2
        obtain ⟨u1, e1, r1⟩ := t1
        obtain ⟨u2, e2, r2⟩ := t2
        have e1' := k2 _ _ e1 (by simp)
        have r1' := r1.kp0 k2
        obtain ⟨z, hz⟩ : ∃ z, strV v = some z := by
          unfold valV at hv
          split at hv
          · exact ⟨_, by assumption⟩
          · cases hv
        obtain rfl := strV_some hz
        have ok := val_ok (show valOf z = some w from hv)
        have tx := val_text (show valOf z = some w from hv)
        refine ⟨_, rfl, _, _, rfl, shw_told e2 (rel_dpe r2) (rp_w ok) rp_value, _, rfl, _, _, rfl, shw_told e1' (rel_dpe r1') (rp_w ok) rp_value, rfl, _, rfl, iteF_ne ?_⟩
        refine ⟨_, rfl, p1, _, _, _, rfl, rfl, SqT.of e1', rfl, rfl, _, rfl, iteT ?_⟩
        refine ⟨_, rfl, p2, _, _, _, rfl, rfl, SqT.of e2, rfl, u2, .inr ⟨rfl, r2.sh, .inl ⟨w, r2, ok, fun H3 p3 k3 hp3 e3 => ⟨_, rfl, (by show 2 ≤ sizeLine; decide), fun p4 hp4 => ?_⟩⟩⟩⟩
        have lz : lowS z := ak.lo z rfl
        rw [tx] at e3
        have lv : lowS "value" := by unfold lowS; decide +kernel
        refine ⟨_, _, .tup (SqT.of ((upd_ne (ne_of_none e3 hp4)).trans e3)) (.cons (.str _) (.cons (.str _) .nil)), .tup (SqT.of upd_same) (.cons (.str _) (.cons (.str _) .nil)), shaped_txt lv lz, shaped_txt lv lz, _, rfl, ?_⟩
        rw [eqv_self (shaped_txt lv lz)]
        exact q' _ _ ⟨rfl, k3.new hp4⟩
      | none =>
        rw [hv] at t1 t2
        have e1 : H1 p1 = some (.tup [.str "none", v]) := t1
        have e2 : H2 p2 = some (.tup [.str "none", v]) := t2
        have e1' := k2 _ _ e1 (by simp)
        refine ⟨_, rfl, _, _, rfl, shw_told e2 ak2.od.dpe ak.r1 rp_none, _, rfl, _, _, rfl, shw_told e1' ak2.od.dpe ak.r1 rp_none, rfl, _, rfl, iteF_ne ?_⟩
        refine ⟨_, rfl, p1, _, _, _, rfl, rfl, SqT.of e1', rfl, rfl, _, rfl, ?_⟩
        rw [show decide (V.str "none" = V.str "value") = false from by decide +kernel]
        exact iteF (q' _ _ ⟨rfl, Kp.refl⟩)
    · rintro b H3 ⟨rfl, k3⟩
      have ak3 := ak2.kp0 k3
      have kk3 := kk.trans k3
      refine iteF ?_
      walk_at "nx"
      obtain ⟨t, ht, hi, _⟩ := ak3.od.tyl K
      refine cut_if (fun b H4 => b = isL d ∧ H4 = H3) (fun Q' q' => ⟨_, rfl, _, _, _, _, _, rfl, .ty _, ht, kit_ty hi, _, rfl, q' _ _ ⟨rfl, rfl⟩⟩) ?_
      rintro b H4 ⟨rfl, rfl⟩
      cases hL : isL d with
      | false => exact iteF (q _ kk3)
      | true =>
        have od := ak3.od
        cases od with
        | sc h =>
          cases v <;> cases d <;> first | exact False.elim h | cases hL
        | tup e h => cases hL
        | emp e => cases hL
        | @lst a xs ds e n h =>
          have hv : valV (.ref a) = none := rfl
          rw [hv] at t2
          have e2 : H2 p2 = some (.tup [.str "none", .ref a]) := t2
          have e2' := k3 _ _ e2 (by simp)
          have hn : xs.length < sizeLine := by
            have h1 := (rp_ok ak.r1).2.2.1
            have h2 := bulk_len ds
            have h3 := h.len
            simp only [PyData.bulk] at h1
            exact Nat.lt_of_le_of_lt (m := 10000) (by omega) (by decide)
          refine iteT ⟨_, rfl, .inl ⟨rfl, _, SqL.of e⟩, a, xs, _, rfl, rfl, e, hn, ?_⟩
          have ea : upd H4 a (.lst (xs ++ [.str "more"])) a = some (.lst (xs ++ [.str "more"])) := upd_same
          have np : p2 ≠ a := fun z => by rw [z, e] at e2'; cases e2'
          have e2a : upd H4 a (.lst (xs ++ [.str "more"])) p2 = some (.tup [.str "none", .ref a]) := (upd_ne np).trans e2'
          have ko : ∀ b o, H4 b = some o → b ≠ a → upd H4 a (.lst (xs ++ [.str "more"])) b = some o := fun b o eb nb => (upd_ne nb).trans eb
          generalize upd H4 a (.lst (xs ++ [.str "more"])) = H5 at *
          have dm : DpE H5 (.ref a) (.list (ds ++ [.str "more"])) := .lst ea n (scs_dpe h.more)
          have rm : rpB (.list (ds ++ [.str "more"])) = true := ak.r2
          refine ⟨_, rfl, _, _, rfl, shw_told e2a dm rm rp_none, _, rfl, (by show 2 ≤ sizeLine; decide), fun p3 hp3 => ?_⟩
          have ea6 : upd H5 p3 (.tup [.str "none", .ref a]) a = some (.lst (xs ++ [.str "more"])) := (upd_ne (ne_of_none ea hp3)).trans ea
          have dm6 : DpE (upd H5 p3 (.tup [.str "none", .ref a])) (.ref a) (.list (ds ++ [.str "more"])) := .lst ea6 n (scs_dpe h.more)
          refine ⟨_, _, rfl, shw_told upd_same dm6 rm rp_none, rfl, _, rfl, iteF_ne ?_⟩
          refine ⟨_, rfl, .inl ⟨rfl, _, SqL.of ea6⟩, a, _, .str "more", rfl, rfl, ea6, by simp, ?_⟩
          refine q _ (kk3.trans fun b o eb _ => ?_)
          by_cases hb : b = a
          · rw [hb, e] at eb
            rw [hb, upd_same, List.dropLast_concat]
            exact eb
          · rw [upd_ne hb]
            have e5 := ko b o eb hb
            exact (upd_ne (ne_of_none e5 hp3)).trans e5
theorem ok_long (T : Tx K mg) {fd : FuncData} (F : Fun K "_law_long_right" "_law_long_right" s__law_long_right (He.ga K "_law_long_right") fd) (c__law_take : Cal P w K mg base 1 "_law_take" spTake) (c__law_told : Cal P w K mg base 4 "_law_told" spTold) : FnG P w K mg base 5 (He.ga K "_law_long_right") fd ["_law_box_here"] spLong := by
  refine FnG.of F sc__law_long_right (fun vs H Q E h => ?_) (fun cdv A outer s H vs Q E hr h => ?_)
  · obtain ⟨b, n, rfl, _⟩ := h; rfl
  · obtain ⟨b, n, rfl, hb, hn, q⟩ := h
    refine ⟨_, pss_cons (ps_set (i := 1) sc__law_long_right.nd rfl (by first | exact Or.inl rfl | exact Or.inr rfl) (pe_ix ix_str (pe_str) (gc c__law_take (hr.mono (by decide)) takes0 (pa_cons (pv 0) (pa_cons (pe_int) (pa_nil)))) (fun _ _ => rfl)))
      (pss_cons (ps_for (passes_of rfl) rfl (kiL K (pe_lst (pa_cons (pe_op op_mulS (pv 1) (pe_int)) (pa_cons (pe_op op_add_str (pe_str) (pe_op op_mulS (pv 1) (pe_int))) (pa_cons (pe_op op_add_str (pe_str) (pe_op op_mulS (pv 1) (pe_int))) (pa_cons (pe_op op_add_str (pe_op op_mulS (pv 1) (pe_int)) (pe_str)) (pa_cons (pe_op op_mulS (pe_str) (pe_int)) (pa_nil)))))))) (pg_name (i := 2) sc__law_long_right.nd rfl (by first | exact Or.inl rfl | exact Or.inr rfl))
        (pss_one (ps_if (pt_cmpR (kneD K hr.r.units) (gc c__law_told (hr.mono (by decide)) takes0 (pa_cons (pe_int) (pa_cons (pv 2) (pa_nil)))) (pe_tup (pa_cons (pe_str) (pa_cons (pv 2) (pa_nil)))) (by first | exact nomark _ | rfl)) (pss_one (ps_ret (pe_bl))) (pss_nil))))
      (pss_one (ps_ret (pe_bl)))), ?_⟩
    refine ⟨_, rfl, b, n, 9, rfl, hb, by omega, by decide, by decide, fun H1 c k1 hb1 c0 c1 => ?_⟩
    obtain ⟨cc, hcm, hcc⟩ := str_at (z := ("123456789" : Str)) c0 (by show c < (("123456789" : Str).length : Int); rw [show ("123456789" : Str).length = 9 from by decide +kernel]; exact c1)
    have lc : cc < 128 := low_mem (x := ("123456789" : Str)) (by unfold lowS; decide +kernel) hcm
    refine ⟨_, c, cc, rfl, rfl, by decide +kernel, hcc, ?_⟩
    have rp : ∀ m : Nat, (⟨(List.replicate m cc).toArray⟩ : Str).length = m := fun m => by rw [TL.len_tl]; show (List.replicate m cc).length = m; simp
    have h4 : (4000 : Nat) ≤ sizeLine := by decide
    refine ⟨_, rfl, _, cc, _, rfl, rfl, rfl, by decide, by decide, _, rfl, _, cc, _, rfl, rfl, rfl, by decide, by decide, _, _, rfl, rfl, ?_, _, rfl, _, cc, _, rfl, rfl, rfl, by decide, by decide, _, _, rfl, rfl, ?_, _, rfl, _, cc, _, rfl, rfl, rfl, by decide, by decide, _, _, rfl, rfl, ?_, "0", 48, _, rfl, rfl, by decide +kernel, by decide, by decide, (by show 5 ≤ sizeLine; decide), fun l hl => ?_⟩
    · rw [rp, show ("-" : Str).length = 1 from by decide +kernel]; exact h4
    · rw [rp, show ("1:" : Str).length = 2 from by decide +kernel]; exact h4
    · rw [rp, show (":0" : Str).length = 2 from by decide +kernel]; exact h4
    obtain ⟨xs, exs⟩ : ∃ xs, xs = [V.str ⟨(List.replicate (Int.toNat 4000) cc).toArray⟩, .str (("-" : Str) ++ ⟨(List.replicate (Int.toNat 3999) cc).toArray⟩), .str (("1:" : Str) ++ ⟨(List.replicate (Int.toNat 3998) cc).toArray⟩), .str ((⟨(List.replicate (Int.toNat 3998) cc).toArray⟩ : Str) ++ (":0" : Str)), .str ⟨(List.replicate (Int.toNat 4000) 48).toArray⟩] := ⟨_, rfl⟩
    have lr : ∀ (m d : Nat), d < 128 → lowS ⟨(List.replicate m d).toArray⟩ := fun m d hd => low_of fun x hx => by
      have : x = d := (List.mem_replicate.mp (show x ∈ List.replicate m d from hx)).2
      omega
    have rp0 : ∀ m : Nat, (⟨(List.replicate m 48).toArray⟩ : Str).length = m := fun m => by rw [TL.len_tl]; show (List.replicate m 48).length = m; simp
    have hx : ∀ x ∈ xs, ∃ z : Str, x = .str z ∧ 82 ≤ z.length ∧ z.length ≤ 4000 ∧ lowS z := by
      rw [exs]
      intro x hx
      simp only [List.mem_cons, List.not_mem_nil, or_false] at hx
      rcases hx with rfl | rfl | rfl | rfl | rfl
      · exact ⟨_, rfl, by rw [rp]; decide, by rw [rp]; decide, lr _ _ lc⟩
      · refine ⟨_, rfl, ?_, ?_, low_app (by unfold lowS; decide +kernel) (lr _ _ lc)⟩ <;> rw [PySem.Str.length_append, rp, show ("-" : Str).length = 1 from by decide +kernel] <;> decide
      · refine ⟨_, rfl, ?_, ?_, low_app (by unfold lowS; decide +kernel) (lr _ _ lc)⟩ <;> rw [PySem.Str.length_append, rp, show ("1:" : Str).length = 2 from by decide +kernel] <;> decide
      · refine ⟨_, rfl, ?_, ?_, low_app (lr _ _ lc) (by unfold lowS; decide +kernel)⟩ <;> rw [PySem.Str.length_append, rp, show (":0" : Str).length = 2 from by decide +kernel] <;> decide
      · exact ⟨_, rfl, by rw [rp0]; decide, by rw [rp0]; decide, lr _ _ (by decide)⟩
    rw [← exs]
    have k2 := k1.kp.new (o := .lst xs) hl
    have el : upd H1 l (.lst xs) l = some (.lst xs) := upd_same
    generalize upd H1 l (.lst xs) = H2 at *
    refine ⟨l, rfl, ⟨_, SqL.of el⟩, for_list (K := K) (a := l) (xs := xs) (fun j σ H' => ∃ w, σ = [some (.ref b), some (.str ⟨#[cc]⟩), w] ∧ Kp [] H2 H') ⟨_, rfl, Kp.refl⟩ (fun i σ H' _ ⟨_, _, k⟩ => SqL.of (k _ _ el (by simp))) ?_ ?_⟩
    · rintro j v σ H3 hj ⟨w, rfl, k3⟩
      obtain ⟨z, rfl, z1, z2, lz⟩ := hx v (List.mem_of_getElem? hj)
      have hv : valV (.str z) = none := by
        show valOf z = none
        cases e : valOf z with
        | none => rfl
        | some u => have := val_len e; omega
      refine ⟨_, rfl, .str z, .inl ⟨rfl, .str z (Nat.le_trans z2 h4), (fun y e => by injection e with e; rw [← e]; exact z2), fun H4 p4 k4 hp4 t4 => ?_⟩⟩
      rw [hv] at t4
      have e4 : H4 p4 = some (.tup [.str "none", .str z]) := t4
      refine ⟨_, rfl, (by show 2 ≤ sizeLine; decide), fun p5 hp5 => ?_⟩
      have ln : lowS "none" := by unfold lowS; decide +kernel
      refine ⟨_, _, .tup (SqT.of ((upd_ne (ne_of_none e4 hp5)).trans e4)) (.cons (.str _) (.cons (.str _) .nil)), .tup (SqT.of upd_same) (.cons (.str _) (.cons (.str _) .nil)), shaped_txt ln lz, shaped_txt ln lz, _, rfl, ?_⟩
      rw [eqv_self (shaped_txt ln lz)]
      exact iteF ⟨_, rfl, (k3.trans k4).new hp5⟩
    · rintro σ H3 ⟨w, rfl, k3⟩
      exact q _ (k2.trans fun c o e _ => k3 c o e (by simp))
theorem ok_law (T : Tx K mg) {fd : FuncData} (F : Fun K "law" "law" s_law (He.ga K "law") fd) (c__law_cell : Cal P w K mg base 1 "_law_cell" (spCell K)) (c__law_box : Cal P w K mg base 1 "_law_box" spBox) (c__law_take : Cal P w K mg base 1 "_law_take" spTake)
    (c__law_long_right : Cal P w K mg base 5 "_law_long_right" spLong) (c__law_odd : Cal P w K mg base 2 "_law_odd" spOdd) (c__law_value : Cal P w K mg base 3 "_law_value" spValue) (c__law_text : Cal P w K mg base 1 "_law_text" spLText) (c__law_figures : Cal P w K mg base 2 "_law_figures" spFigures)
    (c__law_bent : Cal P w K mg base 2 "_law_bent" spBent) (c__law_told : Cal P w K mg base 4 "_law_told" spTold) (c__law_right : Cal P w K mg base 5 "_law_right" spRight) : FnG P w K mg base 6 (He.ga K "law") fd ["_law_script"] (spLaw K) := by
  refine FnG.of F sc_law (fun vs H Q E h => ?_) (fun cdv A outer s H vs Q E hr h => ?_)
  · obtain ⟨a, ns, rfl, _⟩ := h; rfl
  · obtain ⟨a, ns, rfl, hlen, scr, q⟩ := h
    refine ⟨_, pss_cons (ps_if (pt_not (pt_val (gc c__law_long_right (hr.mono (by decide)) takes0 (pa_cons (gc c__law_box (hr.mono (by decide)) takes0 (pa_cons (gc c__law_cell (hr.mono (by decide)) takes0 (pa_cons (pv 0) (pa_cons (pe_int) (pa_nil)))) (pa_nil))) (pa_nil))))) (pss_one (ps_ret (pe_bl))) (pss_nil))
      (pss_cons (ps_for (passes_of rfl) rfl (pi_range1 rfl T.z_range (pa_cons (pe_callB (call_max2 rfl) (by rfl) T.z_max (by decide +kernel) (pa_cons (pe_int) (pa_cons (pe_callB (call_min2 rfl) (by rfl) T.z_min (by decide +kernel) (pa_cons (pe_int) (pa_cons (pe_callB (klen K) (by rfl) T.z_len PySem.boot_len (pa_cons (pv 0) (pa_nil))) (pa_nil)))) (pa_nil)))) (pa_nil))) (pg_name (i := 1) sc_law.nd rfl (by first | exact Or.inl rfl | exact Or.inr rfl))
        (pss_cons (ps_set (i := 2) sc_law.nd rfl (by first | exact Or.inl rfl | exact Or.inr rfl) (gc c__law_box (hr.mono (by decide)) takes0 (pa_cons (gc c__law_cell (hr.mono (by decide)) takes0 (pa_cons (pv 0) (pa_cons (pv 1) (pa_nil)))) (pa_nil))))
      (pss_cons (ps_set (i := 3) sc_law.nd rfl (by first | exact Or.inl rfl | exact Or.inr rfl) (gc c__law_odd (hr.mono (by decide)) takes0 (pa_cons (pv 2) (pa_nil))))
      (pss_cons (ps_set (i := 4) sc_law.nd rfl (by first | exact Or.inl rfl | exact Or.inr rfl) (pe_cmpR op_gt (gc c__law_take (hr.mono (by decide)) takes0 (pa_cons (pv 2) (pa_cons (pe_int) (pa_nil)))) (pe_int) (by first | exact nomark _ | rfl)))
      (pss_cons (ps_set (i := 5) sc_law.nd rfl (by first | exact Or.inl rfl | exact Or.inr rfl) (gc c__law_value (hr.mono (by decide)) takes0 (pa_cons (pv 2) (pa_nil))))
      (pss_cons (ps_set (i := 6) sc_law.nd rfl (by first | exact Or.inl rfl | exact Or.inr rfl) (gc c__law_text (hr.mono (by decide)) takes0 (pa_cons (pv 5) (pa_nil))))
      (pss_cons (ps_if (pt_not (pt_val (pv 4))) (pss_one (ps_set (i := 6) sc_law.nd rfl (by first | exact Or.inl rfl | exact Or.inr rfl) (pe_join (pe_str) (pe_lc (own := [("_law_turn", 7)]) (g := gName 7) (tt := tYes) rfl sc_law.nd (pi_range1 rfl T.z_range (pa_cons (pe_op op_add (pe_int) (gc c__law_take (hr.mono (by decide)) takes0 (pa_cons (pv 2) (pa_cons (pe_int) (pa_nil))))) (pa_nil))) (blkOk_by (own := [("_law_turn", 7)]) (N := ["_law_script", "_law_k", "_law_box_here", "_law_odd_here", "_law_bent_here", "_law_value_here", "_law_text_here", "_law_turn", "_law_thing"]) (sc := defScope s_law) (by decide +kernel)) (fun _ _ _ _ _ => pg_name (i := 7) sc_law.nd rfl (by first | exact Or.inl rfl | exact Or.inr rfl)) (fun _ _ _ _ _ => by exact pts_nil) (fun _ _ _ _ _ => by exact gc c__law_figures (hr.mono (by decide)) takes0 (pa_cons (pv 2) (pa_nil))))))) (pss_one (ps_set (i := 6) sc_law.nd rfl (by first | exact Or.inl rfl | exact Or.inr rfl) (gc c__law_bent (hr.mono (by decide)) takes0 (pa_cons (pv 2) (pa_cons (pv 6) (pa_nil)))))))
      (pss_one (ps_for (passes_of rfl) rfl (pi_range1 rfl T.z_range (pa_cons (pe_int) (pa_nil))) (pg_name (i := 7) sc_law.nd rfl (by first | exact Or.inl rfl | exact Or.inr rfl))
        (pss_cons (ps_if (pt_cmpR op_ne (krepr K hr T.z_repr (gc c__law_told (hr.mono (by decide)) takes0 (pa_cons (pe_int) (pa_cons (pv 5) (pa_nil))))) (krepr K hr T.z_repr (pe_tup (pa_cons (pe_str) (pa_cons (gc c__law_text (hr.mono (by decide)) takes0 (pa_cons (pv 5) (pa_nil))) (pa_nil))))) (by first | exact nomark _ | rfl)) (pss_one (ps_ret (pe_bl))) (pss_nil))
      (pss_cons (ps_if (pt_cmpR op_ne (krepr K hr T.z_repr (gc c__law_told (hr.mono (by decide)) takes0 (pa_cons (pe_int) (pa_cons (pv 3) (pa_nil))))) (krepr K hr T.z_repr (pe_tup (pa_cons (pe_str) (pa_cons (pv 3) (pa_nil))))) (by first | exact nomark _ | rfl)) (pss_one (ps_ret (pe_bl))) (pss_nil))
      (pss_one (ps_for (passes_of rfl) rfl (kiL K (pe_lst (pa_cons (gc c__law_text (hr.mono (by decide)) takes0 (pa_cons (pv 5) (pa_nil))) (pa_cons (pv 6) (pa_cons (pe_ix (kixL K) (pe_lst (pa_cons (pv 3) (pa_cons (pe_non) (pa_nil)))) (pe_callTy call_int1 (by rfl) T.z_int (by decide +kernel) (pa_cons (pe_callB (kisi K) (by rfl) T.z_isinstance (by decide +kernel) (pa_cons (pv 3) (pa_cons (pe_bltn (v := .ty "str") (by rfl) T.z_str (by decide +kernel) rfl) (pa_nil)))) (pa_nil))) (fun _ _ => rfl)) (pa_nil)))))) (pg_name (i := 8) sc_law.nd rfl (by first | exact Or.inl rfl | exact Or.inr rfl))
        (pss_one (ps_if (pt_not (pt_val (gc c__law_right (hr.mono (by decide)) takes0 (pa_cons (pv 8) (pa_nil))))) (pss_one (ps_ret (pe_bl))) (pss_nil))))))))))))))))
      (pss_one (ps_ret (pe_bl)))), ?_⟩
    refine cut_if (fun b H' => b = false ∧ Scr K H' a ns) (fun Q' q' => ?_) ?_
    · refine ⟨_, rfl, a, ns, 0, rfl, scr.sq, fun z => ⟨z, rfl, fun b H8 hb k8 bx8 => ⟨b, 0, rfl, bx8, by decide, fun H9 k9 => ⟨_, rfl, q' _ _ ⟨rfl, ?_⟩⟩⟩⟩⟩
      have K8 : Kp [] H H8 := fun c o e _ => k8.kp c o e (by simpa using ne_of_none e hb)
      exact (scr.kp0 K8).kp k9 bx8.nf
    rintro b H1 ⟨rfl, scr1⟩
    refine iteF ?_
    walk_at "nx"
    refine ⟨_, rfl, a, _, rfl, .inl scr1.sq, _, _, rfl, _, _, rfl, _, rfl, ?_, ?_, for_range (lo := 0) (n := _) (fun i σ H' => ∃ v1 v2 v3 v4 v5 v6 v7 v8, σ = [some (.ref a), v1, v2, v3, v4, v5, v6, v7, v8] ∧ Scr K H' a ns) ⟨_, _, _, _, _, _, _, _, rfl, scr1⟩ ?_ ?_⟩
    · rw [List.length_map]; split <;> split <;> omega
    · rw [List.length_map]; split <;> split <;> omega
    rotate_left
    · rintro σ H2 ⟨_, _, _, _, _, _, _, _, rfl, _⟩
      exact q _
    rintro i σ H7 hi ⟨v1, v2, v3, v4, v5, v6, v7, v8, rfl, s7⟩
    refine ⟨_, rfl, _, rfl, a, ns, i, by rw [Int.zero_add], s7.sq, fun z => ⟨z, rfl, fun b H8 hb k8 bx8 => ?_⟩⟩
    have K8 : Kp [] H7 H8 := fun c o e _ => k8.kp c o e (by simpa using ne_of_none e hb)
    have s8 := s7.kp0 K8
    refine ⟨_, rfl, b, 0, rfl, bx8, by decide, fun H9 od dd k9 bx9 nb9 od9 nv9 rr th9 => ?_⟩
    rw [Bool.and_eq_true] at rr
    have s9 := s8.kp k9 bx8.nf
    refine ⟨_, rfl, b, 1, 3, rfl, bx9, by decide, by decide, by decide, fun H10 f k10 bx10 f0 f1 => ⟨_, _, rfl, rfl, ?_⟩⟩
    have s10 := s9.kp k10.kp bx9.nf
    have od10 := od9.kp k10.kp (by intro c hc; rw [List.mem_singleton.mp hc]; exact nb9)
    refine ⟨_, rfl, b, 2, rfl, bx10, by decide, fun H11 va vw k11 bx11 rv ok => ?_⟩
    have s11 := s10.kp k11 bx10.nf
    have od11 := od10.kp k11 (by intro c hc; rw [List.mem_singleton.mp hc]; exact nb9)
    refine ⟨_, rfl, va, vw, rfl, rv, ok, ?_⟩
    walk_at "nx"
    refine cut_seq (fun σ' H' => ∃ (z : Str) (v7 : Option V), σ' = [some (.ref a), some (.int (0 + (i : Int))), some (.ref b), some od, some (.bl (decide (0 < f))), some va, some (.str z), v7, v8] ∧ z.length ≤ 4000 ∧ lowS z ∧ Kp [b] H11 H') (fun nx hnx => ?_) ?_
    · refine ⟨_, rfl, _, rfl, iteB (fun _ => ?_) (fun _ => ?_)⟩
      · refine ⟨⟨_, rfl⟩, _, rfl, b, _, 3, rfl, bx11, by decide, by decide, by decide, fun H12 m k12 bx12 m0 m1 => ⟨_, _, rfl, rfl, _, rfl, by omega, by omega, fun D hD => ?_⟩⟩
        have nD := bx12.ne hD
        refine lc_range (lo := 0) (n := _) (fun j H' => Kp [b] H11 H' ∧ BoxAt H' b (1000 + 60 * (j : Int)) ∧ ∃ ys : List Str, ys.length = j ∧ (∀ y ∈ ys, y.length ≤ 50 ∧ lowS y) ∧ H' D = some (.lst (ys.map V.str))) ⟨k12.kp.new hD, (bx12.new hD).more (by omega), [], rfl, (fun y hy => by cases hy), upd_same⟩ ?_ ?_
        · rintro j H13 hj ⟨k13, bx13, ys, yl, hy, eD⟩
          refine ⟨rfl, _, rfl, b, _, rfl, bx13, by omega, fun H14 y k14 bx14 hl14 ly14 => ⟨_, k14 _ _ eD (by simpa using nD), ?_, ?_⟩⟩
          · rw [List.length_map]
            exact Nat.lt_of_le_of_lt (m := 100) (by omega) (by decide)
          · refine ⟨fun z o ez nz => (upd_ne (ne_of_none (k12.kp z o ez nz) hD)).trans ((k13.trans k14) z o ez nz), ?_, ys ++ [y], by simp [yl], fun y2 hy2 => ?_, by rw [upd_same, List.map_append]; rfl⟩
            · obtain ⟨x1, x2, x3, eb, r⟩ := bx14
              exact (show BoxAt _ b (1000 + 60 * (j : Int) + 50) from ⟨x1, x2, x3, (upd_ne nD.symm).trans eb, r⟩).more (by omega)
            · rcases List.mem_append.mp hy2 with h | h
              · exact hy y2 h
              · rw [List.mem_singleton.mp h]; exact ⟨hl14, ly14⟩
        · rintro H13 ⟨k13, bx13, ys, yl, hy, eD⟩
          have hs := sum_le fun y h => (hy y h).1
          have hj := joinT_len ":" ys
          have he : (":" : Str).length = 1 := by decide +kernel
          rw [he] at hj
          refine ⟨":", D, ys, rfl, rfl, .inl (SqL.of eD), by rw [he]; omega, hnx _ _ ⟨Txt.join ":" ys, _, rfl, by omega, low_join (by unfold lowS; decide +kernel) fun y h => (hy y h).2, k13⟩⟩
      · exact ⟨_, rfl, _, rfl, b, _, _, rfl, bx11, by decide, Nat.le_trans (text_len ok) (by decide), low_text _, fun H12 y k12 bx12 hy ly => hnx _ _ ⟨_, _, rfl, by omega, ly, k12⟩⟩
    rintro σ H12 ⟨z, v7, rfl, hz, lz, k12⟩
    have s12 := s11.kp k12 bx11.nf
    have nbS : ∀ c ∈ [b], od ≠ .ref c := by intro c hc; rw [List.mem_singleton.mp hc]; exact nb9
    have K912 : Kp [b] H9 H12 := (k10.kp.trans k11).trans k12
    have od12 := od9.kp K912 nbS
    have th12 := od9.thk th9 K912 nbS
    have nv12 : NoVal H12 od := ⟨nv9.n, nv9.i, by have := nv9.p; unfold pairV at this ⊢; rw [od9.tupk K912 nbS]; exact this⟩
    have rv12 := rv.box k12 bx11
    clear bx8 bx9 bx10 bx11 k8 k9 k10 k11 k12 s8 s9 s10 s11 od10 od11
    refine ⟨_, rfl, by decide, by decide, for_range (lo := 0) (n := _) (fun j σ H' => ∃ w7 w8, σ = [some (.ref a), some (.int (0 + (i : Int))), some (.ref b), some od, some (.bl (decide (0 < f))), some va, some (.str z), w7, w8] ∧ Kp [] H12 H') ⟨_, _, rfl, Kp.refl⟩ ?_ ?_⟩
    rotate_left
    · rintro σ H13 ⟨_, _, rfl, k13⟩
      exact ⟨_, _, _, _, _, _, _, _, rfl, s12.kp0 k13⟩
    rintro j σ H13 hj ⟨w7, w8, rfl, k13⟩
    have rv13 := rv12.kp0 k13
    have od13 := od12.kp0 k13
    have th13 := th12.kp k13
    have nv13 : NoVal H13 od := ⟨nv12.n, nv12.i, (th12.pairKp k13).trans nv12.p⟩
    have tl := text_len ok
    have r1 := rp_str (z := textOf vw) (by omega) (low_text _)
    walk_at "nx"
    refine cut_if (fun b H' => b = false ∧ Kp [] H13 H') (fun Q' q' => ?_) ?_
    · refine ⟨_, rfl, va, .inr ⟨rfl, rv13.sh, .inl ⟨vw, rv13, ok, fun H3 p3 k3 hp3 e3 => ⟨_, _, rfl, shw_told e3 (.str _) r1 rp_value, _, rfl, va, vw, rfl, rv13.kp0 k3, ok, (by show 2 ≤ sizeLine; decide), fun p4 hp4 => ⟨_, _, rfl, shw_told upd_same (.str _) r1 rp_value, rfl, _, rfl, ?_⟩⟩⟩⟩⟩
      exact iteF_neQ (q' _ _ ⟨rfl, k3.new hp4⟩)
    rintro b1 H14 ⟨rfl, k14⟩
    have od14 := od13.kp0 k14
    have th14 := th13.kp k14
    have nv14 : NoVal H14 od := ⟨nv13.n, nv13.i, (th13.pairKp k14).trans nv13.p⟩
    refine iteF ?_
    walk_at "nx"
    refine cut_if (fun b H' => b = false ∧ Kp [] H14 H') (fun Q' q' => ?_) ?_
    · refine ⟨_, rfl, od, .inr ⟨rfl, th14, .inr ⟨nv14, fun H3 p3 k3 hp3 e3 => ⟨_, _, rfl, shw_told e3 (od14.kp0 k3).dpe rr.1 rp_none, _, rfl, (by show 2 ≤ sizeLine; decide), fun p4 hp4 => ⟨_, _, rfl, shw_told upd_same (od14.kp0 (k3.new hp4)).dpe rr.1 rp_none, rfl, _, rfl, ?_⟩⟩⟩⟩⟩
      exact iteF_neQ (q' _ _ ⟨rfl, k3.new hp4⟩)
    rintro b2 H15 ⟨rfl, k15⟩
    have k1315 := k14.trans k15
    have od15 := od14.kp0 k15
    have th15 := th14.kp k15
    have rv15 := rv13.kp0 k1315
    refine iteF ?_
    walk_at "nx"
    obtain ⟨t, ht, _, hs⟩ := od15.tyl K
    refine ⟨_, rfl, va, vw, rfl, rv15, ok, _, rfl, _, rfl, (by show 2 ≤ sizeLine; decide), fun l1 hl1 => ?_⟩
    have k16 := (Kp.refl (S := []) (H := H15)).new (o := .lst [od, .non]) hl1
    have e16 : upd H15 l1 (.lst [od, .non]) l1 = some (.lst [od, .non]) := upd_same
    generalize upd H15 l1 (.lst [od, .non]) = H16 at *
    have od16 := od15.kp0 k16
    obtain ⟨t, ht, _, hs⟩ := od16.tyl K
    obtain ⟨th, hth, ak⟩ : ∃ th, atI [od, .non] (if (strV od).isSome = true then 1 else 0) = some th ∧ ∃ d, Ask H16 th d := by
      cases hso : strV od with
      | none => exact ⟨od, rfl, _, od16, th15.kp k16, (fun z e => by rw [hso] at e; cases e), (fun z e => by rw [hso] at e; cases e), rr.1, rr.2⟩
      | some y => exact ⟨.non, rfl, .none, .sc trivial, ⟨.non, fun xs e => by cases e⟩, (fun z e => by cases e), (fun z e => by cases e), by decide +kernel, by decide +kernel⟩
    refine ⟨_, rfl, _, _, _, _, _, rfl, .ty _, ht, kit_ty hs, .inr ⟨_, rfl, l1, _, _, _, rfl, rfl, SqL.of e16, hth, (by show 3 ≤ sizeLine; decide), fun l2 hl2 => ?_⟩⟩
    obtain ⟨d, ak⟩ := ak
    obtain ⟨xs, exs⟩ : ∃ xs, xs = [V.str (textOf vw), .str z, th] := ⟨_, rfl⟩
    rw [← exs]
    have k17 := (Kp.refl (S := []) (H := H16)).new (o := .lst xs) hl2
    have e17 : upd H16 l2 (.lst xs) l2 = some (.lst xs) := upd_same
    generalize upd H16 l2 (.lst xs) = H17 at *
    have K17 : Kp [] H12 H17 := ((k13.trans k1315).trans k16).trans k17
    have askS : ∀ {H : Hp} {y : Str}, y.length ≤ 4000 → lowS y → Ask H (.str y) (.str y) := fun {H y} h1 h2 =>
      ⟨.sc rfl, ⟨.str y (Nat.le_trans h1 (by decide)), fun xs e => by cases e⟩, (fun z e => by injection e with e; rw [← e]; exact h1), (fun z e => by injection e with e; rw [← e]; exact h2), rp_str h1 h2, rp_str h1 h2⟩
    have hx : ∀ x ∈ xs, ∃ d, Ask H17 x d := by
      rw [exs]
      intro x hx
      simp only [List.mem_cons, List.not_mem_nil, or_false] at hx
      rcases hx with rfl | rfl | rfl
      · exact ⟨_, askS (by omega) (low_text _)⟩
      · exact ⟨_, askS hz lz⟩
      · exact ⟨_, ak.kp0 k17⟩
    refine ⟨l2, rfl, ⟨_, SqL.of e17⟩, for_list (K := K) (a := l2) (xs := xs) (fun m σ H' => ∃ w8, σ = [some (.ref a), some (.int (0 + (i : Int))), some (.ref b), some od, some (.bl (decide (0 < f))), some va, some (.str z), some (.int (0 + (j : Int))), w8] ∧ Kp [] H17 H') ⟨_, rfl, Kp.refl⟩ (fun i σ H' _ ⟨_, _, k⟩ => SqL.of (k _ _ e17 (by simp))) ?_ ?_⟩
    · rintro m x σ H18 hm ⟨w8, rfl, k18⟩
      obtain ⟨d2, ak2⟩ := hx x (List.mem_of_getElem? hm)
      exact ⟨_, rfl, x, d2, rfl, ak2.kp0 k18, fun H19 k19 => ⟨_, rfl, iteF ⟨_, rfl, k18.trans k19⟩⟩⟩
    · rintro σ H18 ⟨w8, rfl, k18⟩
      exact ⟨_, _, rfl, K17.trans k18⟩
end

end Lw
namespace Lw
open PySem PySem.Spec L2 FG
open PyProof.Rows hiding St
section
variable {P : Program} {w : World} {K : PySem.W.Frag} {mg : Str → Option Value} {base : Heap}
theorem law_ok (T : Tx K mg) {fd : FuncData} (F : Fun K "law" "law" s_law (He.ga K "law") fd) : FnG P w K mg base 6 (He.ga K "law") fd ["_law_script"] (spLaw K) := by
  have r_NoValue := rai_NoValue (P := P) (w := w) (base := base) T
  have c_is_number : Cal P w K mg base 1 "is_number" spNumG := Cal.of T.g_is_number T.F_is_number (fun F => F.binds (ps := ["thing"]) fun _ _ _ _ _ _ us hl => match us, hl with | [_], _ => rfl) (ok_number T)
  have c_is_pair : Cal P w K mg base 2 "is_pair" spPair := Cal.of T.g_is_pair T.F_is_pair (fun F => F.binds (ps := ["thing"]) fun _ _ _ _ _ _ us hl => match us, hl with | [_], _ => rfl) fun F => ok_pair T F c_is_number
  have c_are_figures : Cal P w K mg base 1 "are_figures" spFigs := Cal.of T.g_are_figures T.F_are_figures (fun F => F.binds (ps := ["text"]) fun _ _ _ _ _ _ us hl => match us, hl with | [_], _ => rfl) (ok_figs T)
  have c_value_text : Cal P w K mg base 3 "value_text" (spText K) := Cal.of T.g_value_text T.F_value_text (fun F => F.binds (ps := ["value"]) fun _ _ _ _ _ _ us hl => match us, hl with | [_], _ => rfl) fun F => ok_vtext T F c_is_number c_is_pair r_NoValue
  have c_value_of : Cal P w K mg base 3 "value_of" (spVal K) := Cal.of T.g_value_of T.F_value_of (fun F => F.binds (ps := ["text"]) fun _ _ _ _ _ _ us hl => match us, hl with | [_], _ => rfl) fun F => ok_val T F c_are_figures r_NoValue
  have c__law_cell : Cal P w K mg base 1 "_law_cell" (spCell K) := Cal.of T.g__law_cell T.F__law_cell (fun F => F.binds (ps := ["_law_script", "_law_k"]) fun _ _ _ _ _ _ us hl => match us, hl with | [_, _], _ => rfl) (ok_cell T)
  have c__law_box : Cal P w K mg base 1 "_law_box" spBox := Cal.of T.g__law_box T.F__law_box (fun F => F.binds (ps := ["_law_cell_here"]) fun _ _ _ _ _ _ us hl => match us, hl with | [_], _ => rfl) (ok_box T)
  have c__law_take : Cal P w K mg base 1 "_law_take" spTake := Cal.of T.g__law_take T.F__law_take (fun F => F.binds (ps := ["_law_box_here", "_law_many"]) fun _ _ _ _ _ _ us hl => match us, hl with | [_, _], _ => rfl) (ok_take T)
  have c__law_page : Cal P w K mg base 1 "_law_page" spPage := Cal.of T.g__law_page T.F__law_page (fun F => F.binds (ps := []) fun _ _ _ _ _ _ us hl => match us, hl with | [], _ => rfl) (ok_page T)
  have c__law_number : Cal P w K mg base 2 "_law_number" spNumber := Cal.of T.g__law_number T.F__law_number (fun F => F.binds (ps := ["_law_box_here"]) fun _ _ _ _ _ _ us hl => match us, hl with | [_], _ => rfl) fun F => ok_lnumber T F c__law_take
  have c__law_value : Cal P w K mg base 3 "_law_value" spValue := Cal.of T.g__law_value T.F__law_value (fun F => F.binds (ps := ["_law_box_here"]) fun _ _ _ _ _ _ us hl => match us, hl with | [_], _ => rfl) fun F => ok_lvalue T F c__law_take c__law_number
  have c__law_text : Cal P w K mg base 1 "_law_text" spLText := Cal.of T.g__law_text T.F__law_text (fun F => F.binds (ps := ["_law_value_here"]) fun _ _ _ _ _ _ us hl => match us, hl with | [_], _ => rfl) (ok_ltext T)
  have c__law_figures : Cal P w K mg base 2 "_law_figures" spFigures := Cal.of T.g__law_figures T.F__law_figures (fun F => F.binds (ps := ["_law_box_here"]) fun _ _ _ _ _ _ us hl => match us, hl with | [_], _ => rfl) fun F => ok_figures T F c__law_take
  have c__law_bent : Cal P w K mg base 2 "_law_bent" spBent := Cal.of T.g__law_bent T.F__law_bent (fun F => F.binds (ps := ["_law_box_here", "_law_text_here"]) fun _ _ _ _ _ _ us hl => match us, hl with | [_, _], _ => rfl) fun F => ok_bent T F c__law_take c__law_page
  have c__law_read : Cal P w K mg base 1 "_law_read" spRead := Cal.of T.g__law_read T.F__law_read (fun F => F.binds (ps := ["_law_text_here"]) fun _ _ _ _ _ _ us hl => match us, hl with | [_], _ => rfl) (ok_lread T)
  have c__law_due : Cal P w K mg base 2 "_law_due" spDue := Cal.of T.g__law_due T.F__law_due (fun F => F.binds (ps := ["_law_thing"]) fun _ _ _ _ _ _ us hl => match us, hl with | [_], _ => rfl) fun F => ok_ldue T F c__law_read
  have c__law_told : Cal P w K mg base 4 "_law_told" spTold := Cal.of T.g__law_told T.F__law_told (fun F => F.binds (ps := ["_law_way", "_law_thing"]) fun _ _ _ _ _ _ us hl => match us, hl with | [_, _], _ => rfl) fun F => ok_told T F c_value_of c_value_text
  have c__law_odd : Cal P w K mg base 2 "_law_odd" spOdd := Cal.of T.g__law_odd T.F__law_odd (fun F => F.binds (ps := ["_law_box_here"]) fun _ _ _ _ _ _ us hl => match us, hl with | [_], _ => rfl) fun F => ok_odd T F c__law_take
  have c__law_right : Cal P w K mg base 5 "_law_right" spRight := Cal.of T.g__law_right T.F__law_right (fun F => F.binds (ps := ["_law_thing"]) fun _ _ _ _ _ _ us hl => match us, hl with | [_], _ => rfl) fun F => ok_right T F c__law_due c__law_told
  have c__law_long_right : Cal P w K mg base 5 "_law_long_right" spLong := Cal.of T.g__law_long_right T.F__law_long_right (fun F => F.binds (ps := ["_law_box_here"]) fun _ _ _ _ _ _ us hl => match us, hl with | [_], _ => rfl) fun F => ok_long T F c__law_take c__law_told
  exact ok_law T F c__law_cell c__law_box c__law_take c__law_long_right c__law_odd c__law_value c__law_text c__law_figures c__law_bent c__law_told c__law_right
end

end Lw
open PySem PySem.W PySem.Calls PyProof.Rows
set_option maxHeartbeats 0 in
theorem PySem.Challenge.cw_framerooms_k02_values_as_texts_holds : PySem.Challenge.rw_framerooms_k02_values_as_texts.Holds := by
  w_on; o_law
  refine HandSHeadRun.head_any (r := OpenLaw.row PySem.Challenge.rw_framerooms_k02_values_as_texts) (q := view (OpenLaw.row PySem.Challenge.rw_framerooms_k02_values_as_texts).prog [27]) (H := Lw.hk) (ob := Lw.ob) (M := 4500) (loose := Lw.names0) (d := HandSHeadRun.topDef (OpenLaw.row PySem.Challenge.rw_framerooms_k02_values_as_texts).prog 27) (kwd := []) Lw.ob_eq
    (by kernel_rfl) (fun s => by kernel_rfl) Lw.run (by kernel_rfl) (by kernel_rfl) (by kernel_rfl) (by rfl) (by first | assumption | decide +kernel) (by decide +kernel) ⟨rfl, rfl, rfl, rfl, rfl, by decide +kernel⟩ ?hw ?hc
  case hw => w_witness2
  case hc =>
    refine FG.walk_G (l := PySem.Challenge.rw_framerooms_k02_values_as_texts) (n := 63) (k := 6) (x := "_law_script") rfl (by decide) (by kernel_rfl) ⟨rfl, by decide, by decide⟩ ?F
    intro w mg fa h Y G hmg0
    obtain ⟨K, KX, c⟩ := Y
    have hmg : mg ("law" : PySem.Str) = some (.ref fa) := by
      have e : (HandSHeadRun.topDef (OpenLaw.row PySem.Challenge.rw_framerooms_k02_values_as_texts).prog 27).name = ("law" : PySem.Str) := by kernel_rfl
      rw [← e]
      exact hmg0
    have T : Lw.Tx K mg := Lw.tx_of KX G c.1 c.2
    have e := hmg.symm.trans T.g_law
    cases e
    obtain ⟨fd, F⟩ := T.F_law
    have b := F.binds (ps := ["_law_script"]) fun _ _ _ _ _ _ us hl => match us, hl with | [_], _ => rfl
    refine ⟨K, fd, Lw.spLaw K, KX, fun s u => ?_, fun H a ns hl bits hO hS => ⟨a, ns, rfl, hl, Lw.Scr.of hO hS, fun _ => rfl⟩, fun base _ _ => Lw.law_ok T F⟩
    have F2 := F
    obtain ⟨oc, od, kV, doc, pm, an, cdv, ct, osl, rfl, lk, hcd⟩ := F2.ex
    exact BindsTo.of_eq rfl
