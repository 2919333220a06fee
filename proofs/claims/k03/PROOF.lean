import PyProof.Rows.All
import Wide.All
import OpenK.AllK
import Wide.FinOn
import HandS.ForMost
import HandS.Exc
import HandS.ExcOwn
import HandS.ExcInit
import HandS.ExcIs
import HandS.ExcField
import KE.KExcIs
import HandS.TryOnly
import HandS.TryMany
import HandS.WordsExc
import HandS.Defaults
import HandS.Flow
import HandS.Style
import HandS.More
import HandS.Wide
import HandS.Walk
import HandS.Conv
import PyProof.DictMoreH
import HandS.DictTup
import HandS.DictSubView
import HandS.HotCalls
import KE.DataFind
import KE.KDictCopyH
import HandS.Zip
import HandS.ListItems
import HandS.Rev
import HandS.IsInst
import HandS.EndBits
import HandS.Head0
import HandS.Head1
import HandS.Head2
import HandS.HeadEnd
import HandS.HeadHook1
import HandS.HeadHook2
import HandS.HeadHook3
import HandS.HeadHook4
import HandS.Deep
import PySem.Challenge.RW_framerooms_k03_refusals_apart
import HandS.ExcValue
set_option Elab.async false
set_option linter.all false
set_option maxRecDepth 100000
set_option maxHeartbeats 4000000
/-! GBase: calls whose frames know that no repr is running (guards), for defs that may raise; repr of data. Own layer over HandS. -/
namespace FG
open PySem PySem.Spec L2
open PyProof.Rows hiding St

/-- room for calls, and no guard stands around -/
structure RG (k : Nat) (A : Around) : Prop where
  r : Room k A
  g : A.guards = some []
theorem RG.mono {j k : Nat} {A : Around} (h : RG k A) (q : j ≤ k := by decide) : RG j A := ⟨h.r.mono q, h.g⟩
theorem RG.hu {k : Nat} {A : Around} (h : RG k A) : A.units + 1 < cLine := hu_of h.r
theorem RG.u65 {k : Nat} {A : Around} (h : RG k A) : A.units + 65 < cLine := by have := h.r.un; omega

/-- a def's promise where the guards are known -/
structure FnG (P : Program) (w : World) (K : PySem.W.Frag) (mg : Str → Option Value) (base : Heap) (k : Nat) (f : Addr) (fd : FuncData) (ps : List Str) (sp : Sp) : Prop where
  nargs : ∀ vs H Q E, sp vs H Q E → vs.length = ps.length
  goes : ∀ (A : Around) (outer : List Env) (s : Shared) (H : Hp) (ar : Args) (us : List Value) (vs : List V) (Q : VK) (E : XK),
    RG k A → Env0 P w K mg base A outer s H → BindsTo s fd ar (ps.zip us) → Vals vs us → sp vs H Q E → codeAny (model P w) A (.call (.ref f) ar) (CR (L2.CX P w) outer P w H s Q E) s
theorem FnG.weaker {P : Program} {w : World} {K : PySem.W.Frag} {mg : Str → Option Value} {base : Heap} {k : Nat} {f : Addr} {fd : FuncData} {ps : List Str} {sp sp' : Sp} (F : FnG P w K mg base k f fd ps sp)
    (h : ∀ vs H Q E, sp' vs H Q E → sp vs H Q E) : FnG P w K mg base k f fd ps sp' :=
  ⟨fun vs H Q E z => F.nargs vs H Q E (h _ _ _ _ z), fun A outer s H ar us vs Q E a b c d z => F.goes A outer s H ar us vs Q E a b c d (h _ _ _ _ z)⟩

section
variable {P : Program} {w : World} {K : PySem.W.Frag} {mg : Str → Option Value} {base : Heap}
/-- a def of the text, by its body -/
theorem FnG.of {x qual : Str} {st : Stmt} {f : Addr} {fd : FuncData} {N ps : List Str} {k : Nat} {sp : Sp} (F : Fun K x qual st f fd) (S : FnScope N ps (defScope st)) (hn : ∀ vs H Q E, sp vs H Q E → vs.length = ps.length)
    (hb : ∀ (cdv : Value) (A : Around) (outer : List Env) (s : Shared) (H : Hp) (vs : List V) (Q : VK) (E : XK), RG k (A.deeper (envOfC qual (defScope st) s.heap.objs.size f cdv)) → sp vs H Q E →
      ∃ t, PSs (cxOf (L2.CX P w) P w K mg base N qual (defScope st) f cdv A outer s H E) (defBody st) t ∧ t { nx := fun _ H' => Q .non H', rt := Q } (start N vs) H) : FnG P w K mg base (k + 1) f fd ps sp := by
  obtain ⟨oc, od, kV, doc, pm, an, cdv, ct, osl, rfl, lk, hcd⟩ := F.ex
  refine ⟨hn, fun A outer s H ar us vs Q E hg env0 bnd rel hsp => ?_⟩
  have len := hn _ _ _ _ hsp
  have inK : K.In s.heap := env0.mod.kin.keeps fun b o z => (env0.bs b o z).1
  have nol : s.heap.NoLimit := env0.mod.nolimit.keeps fun b o z => (env0.bs b o z).1
  have hk : ∀ y ∈ ps.zip us, (defScope st).names.lookup y.1 = some .local ∨ ((defScope st).names.lookup y.1 = some .cell ∧ ((cellsFrom (s.heap.objs.size + 1) (defScope st).names []).lookup y.1).isSome = true) := by
    rintro ⟨n, v⟩ hy
    exact (S.par n (List.of_mem_zip hy).1).elim .inl fun q => .inr ⟨q, PySem.W.cellsFrom_some _ _ _ (.inl q)⟩
  refine codeAny_call_function hg.r.depth (inK _ _ lk) rfl S.co S.gen rfl (PySem.W.codeRec_of inK hcd) (bnd _ _ _ _ ?_)
  refine wpAny_newFunctionEnv_cells S.kind hk fun env ee s1 inc => ?_
  subst ee
  refine ⟨nol.keeps inc.toInCall.keep, codeAny_func ?_⟩
  obtain ⟨t, ht, hq⟩ := hb cdv A outer s H vs Q E ⟨hg.r.deeper _, hg.g⟩ hsp
  have I0 : Inv (cxOf (L2.CX P w) P w K mg base N qual (defScope st) f cdv A outer s H E) [] (start N vs) H s1 := inv_start S hg.r.hd env0 len rel inc
  refine wpAny_mono (ht.run [] s1 (start N vs) H _ I0 hq) (fun fl s2 hs => ?_) fun _ _ hs => hs
  have fin : ∀ {σ2 : St} {H2 : Hp} {v : V} {u : Value}, Inv (cxOf (L2.CX P w) P w K mg base N qual (defScope st) f cdv A outer s H E) [] σ2 H2 s2 → RelV v u → Q v H2 → CE outer P w H s Q u s2 := by
    intro σ2 H2 v u J rv q
    exact ⟨v, H2, J.os, J.bare, J.base, J.hok, rv, q⟩
  match fl, hs with
  | .ret u, ⟨v, σ2, H2, J, rv, q⟩ => exact fin J rv q
  | .next, ⟨σ2, H2, J, q⟩ => exact fin (v := V.non) (u := Value.none) J rfl q
  | .brk, ⟨_, _, _, q⟩ => exact q.elim
  | .cont, ⟨_, _, _, q⟩ => exact q.elim
end

/-! ### defs, methods, classes as their callers see them -/
/-- the module's def x keeps sp -/
structure Cal (P : Program) (w : World) (K : PySem.W.Frag) (mg : Str → Option Value) (base : Heap) (k : Nat) (x : Str) (sp : Sp) : Prop where
  ex : ∃ (f : Addr) (fd : FuncData) (ps : List Str), FnG P w K mg base k f fd ps sp ∧ mg x = some (.ref f) ∧ PySem.W.keepIn K (.ref f) = true ∧ Binds K fd ps []
/-- the method m of the class at C keeps sp -/
structure Met (P : Program) (w : World) (K : PySem.W.Frag) (mg : Str → Option Value) (base : Heap) (k : Nat) (C : Addr) (m : Str) (sp : Sp) : Prop where
  ex : ∃ (f : Addr) (fd : FuncData) (ps : List Str), Cls K C ∧ Meth K C m f ∧ FnG P w K mg base k f fd ps sp ∧ Binds K fd ps []
/-- the class x, at C, is made by an __init__ that keeps sp -/
structure Mak (P : Program) (w : World) (K : PySem.W.Frag) (mg : Str → Option Value) (base : Heap) (k : Nat) (x : Str) (C : Addr) (sp : Sp) : Prop where
  ex : ∃ (f : Addr) (fd : FuncData) (ps : List Str), Mk K C f ∧ FnG P w K mg base k f fd ps sp ∧ mg x = some (.ref C) ∧ Binds K fd ps []

theorem make_guards {A : Around} {C : Addr} {us : List Value} {kw : List (Str × Value)} : (A.under (.builtin "type.__call__" ⟨.ref C :: us, kw⟩)).guards = A.guards := by
  first | rfl | simp [Around.under, Code.guards, Code.isGuard, guardIds, pushGuards]

/-- a call's reading: the arguments, then the promise; W: what is wanted of an exception -/
def tG (sp : Sp) (W : WX) (t : TA) : TE := fun σ H Q => t σ H fun vs H1 => sp vs H1 Q (fun cls d H2 => W cls d σ H2)
/-- o.m(..) -/
def tGm (C : Addr) (m : Str) (sp : Sp) (W : WX) (ta : TE) (t : TA) : TE := fun σ H Q => ta σ H fun x H1 => ∃ a dx fs, x = .ref a ∧ H1 a = some (.ins C dx fs) ∧ fs.lookup m = none ∧
  t σ H1 fun vs H2 => sp (x :: vs) H2 Q (fun cls d H3 => W cls d σ H3)
/-- C(..) -/
def tGk (C : Addr) (sp : Sp) (W : WX) (t : TA) : TE := fun σ H Q => t σ H fun vs H1 => ∀ x dx, H1 x = none → H1 dx = none → dx ≠ x →
  sp (.ref x :: vs) (upd (upd H1 dx (.own x)) x (.ins C dx [])) (fun v H2 => v = .non ∧ Q (.ref x) H2) (fun cls d H2 => W cls d σ H2)

section
variable {X : Cx} {k : Nat} {f C : Addr} {fd : FuncData} {ps : List Str} {sp : Sp} {W : WX} {x m : Str} {p pos apos : Pos} {e o : Expr} {es : List Expr} {ta : TE} {t : TA}

theorem runs {pins : List (Addr × Obj)} {σ : St} {H : Hp} {s : Shared} {Q : VK} {us : List Value} {vs : List V} (F : FnG X.prog X.w X.K X.mg X.base k f fd ps sp) (hr : RG k X.A) (hb : Binds X.K fd ps []) (tk : Takes X W)
    (I : Inv X pins σ H s) (r : Vals vs us) (h : sp vs H Q (fun cls d H2 => W cls d σ H2)) : wpAny (model X.prog X.w) X.A (call (.ref f) us) (EP X pins σ Q) X.xe s := by
  have ln : us.length = ps.length := r.length.symm.trans (F.nargs _ _ _ _ h)
  have b := hb s us I.kIn (by simpa using ln)
  rw [List.append_nil] at b
  refine wpAny_call (codeAny_mono (F.goes X.A X.stack s H ⟨us, []⟩ us vs Q _ hr I.env0 b r h) fun q s2 hq => ?_)
  match q, hq with
  | .error e, hq => exact passAt tk σ pins H s e s2 I hq
  | .ok (.ret u), hq => exact I.after hq
  | .ok .next, hq => exact hq.elim
  | .ok .brk, hq => exact hq.elim
  | .ok .cont, hq => exact hq.elim

theorem gc (c : Cal X.prog X.w X.K X.mg X.base k x sp) (hr : RG k X.A) (tk : Takes X W) (ha : PA X (e :: es) t) (hg : Gl X x := by rfl) (hdb : (x == ("__debug__" : Str)) = false := by decide)
    (he : starEach (e :: es) X.env = (false, eval e X.env) :: starEach es X.env := by rfl) (hpl : (backTo pos (starEach es X.env)).any (·.1) = false := by rfl) : PE X (.Call (.Name x p) (e :: es) [] pos) (tG sp W t) := by
  obtain ⟨f, fd, ps, F, hm, hk, hb⟩ := c.ex
  refine ⟨fun pins s σ H Q I h => wpAny_Call_Name_kw (ld_glob I hg hm ?_ hdb)⟩
  exact PySem.W.callWith_K (h₀ := X.base) I.ok.mod.kin hk (thn (ha.run pos pins s σ H _ I h) fun us s1 ⟨vs, H1, I1, r, q⟩ => ⟨I1.kIn, runs F hr hb tk I1 r q⟩) he hpl
theorem gc0 (c : Cal X.prog X.w X.K X.mg X.base k x sp) (hr : RG k X.A) (tk : Takes X W) (hg : Gl X x := by rfl) (hdb : (x == ("__debug__" : Str)) = false := by decide) : PE X (.Call (.Name x p) [] [] pos) (tG sp W tNil) := by
  obtain ⟨f, fd, ps, F, hm, hk, hb⟩ := c.ex
  exact ⟨fun pins s σ H Q I h => wpAny_Call_Name_kw (ld_glob I hg hm (PySem.W.callWith_K0 I.kIn hk (runs (us := []) F hr hb tk I .nil h)) hdb)⟩

theorem gm {pl : Sem Bool} (c : Met X.prog X.w X.K X.mg X.base k C m sp) (hr : RG k X.A) (tk : Takes X W) (he : PE X o ta) (ha : PA X (e :: es) t)
    (hst : starEach (e :: es) X.env = (false, eval e X.env) :: starEach es X.env := by rfl) (hpl : (backTo pos (starEach es X.env)).any (·.1) = false := by rfl)
    (ht : eval (.Call (.Attribute o m apos) (e :: es) [] pos) X.env = (do let ov ← eval o X.env; standAt apos.atName; let (f, first) ← holding [ov] (getMethod ov m pl); callWith pos f first (backTo pos (starEach (e :: es) X.env)) (backToKw pos (keywordEach [] X.env))) := by rfl) :
    PE X (.Call (.Attribute o m apos) (e :: es) [] pos) (tGm C m sp W ta t) := by
  obtain ⟨f, fd, ps, cl, hm, F, hb⟩ := c.ex
  refine ⟨fun pins s σ H Q I h => PySem.W.methodCall_KW (pl := pl) (thn (he.run pins s σ H _ I h) fun u s1 ⟨x, H1, I1, rx, a, dx, fs, ex, ea, l, q⟩ => ?_) ht⟩
  subst ex
  obtain rfl : u = Value.ref a := rx
  refine getmeth_ok I1 ea cl hm l (PySem.W.callWith_K (first := [.ref a]) (h₀ := X.base) I.ok.mod.kin hm.kp (thn (ha.run pos pins s1 σ H1 _ I1 q) fun us s2 ⟨vs, H2, I2, r, q2⟩ => ⟨I2.kIn, ?_⟩) hst hpl)
  exact runs (us := .ref a :: us) (vs := .ref a :: vs) F hr hb tk I2 (.cons rfl r) q2
theorem gm0 {pl : Sem Bool} (c : Met X.prog X.w X.K X.mg X.base k C m sp) (hr : RG k X.A) (tk : Takes X W) (he : PE X o ta)
    (ht : eval (.Call (.Attribute o m apos) [] [] pos) X.env = (do let ov ← eval o X.env; standAt apos.atName; let (f, first) ← holding [ov] (getMethod ov m pl); callWith pos f first (backTo pos (starEach [] X.env)) (backToKw pos (keywordEach [] X.env))) := by rfl) :
    PE X (.Call (.Attribute o m apos) [] [] pos) (tGm C m sp W ta tNil) := by
  obtain ⟨f, fd, ps, cl, hm, F, hb⟩ := c.ex
  refine ⟨fun pins s σ H Q I h => PySem.W.methodCall_KW (pl := pl) (thn (he.run pins s σ H _ I h) fun u s1 ⟨x, H1, I1, rx, a, dx, fs, ex, ea, l, q⟩ => ?_) ht⟩
  subst ex
  obtain rfl : u = Value.ref a := rx
  exact getmeth_ok I1 ea cl hm l (PySem.W.callWith_K0 (first := [.ref a]) I1.kIn hm.kp (runs (us := [.ref a]) (vs := [.ref a]) F hr hb tk I1 (.cons rfl .nil) q))

theorem makes {pins : List (Addr × Obj)} {σ : St} {H : Hp} {s : Shared} {Q : VK} {us : List Value} {vs : List V} (M : Mk X.K C f) (F : FnG X.prog X.w X.K X.mg X.base k f fd ps sp) (hr : RG (k + 1) X.A) (hb : Binds X.K fd ps []) (tk : Takes X W)
    (I : Inv X pins σ H s) (r : Vals vs us) (h : ∀ x dx, H x = none → H dx = none → dx ≠ x → sp (.ref x :: vs) (upd (upd H dx (.own x)) x (.ins C dx [])) (fun v H2 => v = .non ∧ Q (.ref x) H2) (fun cls d H2 => W cls d σ H2)) :
    wpAny (model X.prog X.w) X.A (call (.ref C) us) (EP X pins σ Q) X.xe s := by
  have hq := h (s.heap.objs.size + 1) s.heap.objs.size (I.hok.fresh (Nat.le_succ _)) (I.hok.fresh (Nat.le_refl _)) (Nat.ne_of_lt (Nat.lt_succ_self _))
  have I2 := Inv.made (C := C) I
  have r2 : Vals (V.ref (s.heap.objs.size + 1) :: vs) (Value.ref (s.heap.objs.size + 1) :: us) := .cons rfl r
  have ln : (Value.ref (s.heap.objs.size + 1) :: us).length = ps.length := r2.length.symm.trans (F.nargs _ _ _ _ hq)
  have b := hb _ (Value.ref (s.heap.objs.size + 1) :: us) I2.kIn (by simpa using ln)
  rw [List.append_nil] at b
  refine wpAny_call (make_map (f := f) I.kIn M.makes M.init (beq_iff_eq.mp M.fn) (codeAny_mono (F.goes _ X.stack _ _ ⟨Value.ref (s.heap.objs.size + 1) :: us, []⟩ (Value.ref (s.heap.objs.size + 1) :: us) _ _ _ ⟨hr.r.make C us [], make_guards.trans hr.g⟩ (I2.env0.make C us []) b r2 hq) fun q s2 hq2 => ?_))
  match q, hq2 with
  | .error e, hq2 => exact passAt tk σ pins _ _ e s2 I2 hq2
  | .ok (.ret u), hq2 =>
    obtain ⟨v, H3, I3, rv, ev, q3⟩ := I2.after hq2
    subst ev
    exact ⟨rv, ⟨V.ref (s.heap.objs.size + 1), H3, I3, rfl, q3⟩⟩
  | .ok .next, hq2 => exact hq2.elim
  | .ok .brk, hq2 => exact hq2.elim
  | .ok .cont, hq2 => exact hq2.elim
theorem gk (c : Mak X.prog X.w X.K X.mg X.base k x C sp) (hr : RG (k + 1) X.A) (tk : Takes X W) (ha : PA X (e :: es) t) (hg : Gl X x := by rfl) (hdb : (x == ("__debug__" : Str)) = false := by decide)
    (he : starEach (e :: es) X.env = (false, eval e X.env) :: starEach es X.env := by rfl) (hpl : (backTo pos (starEach es X.env)).any (·.1) = false := by rfl) : PE X (.Call (.Name x p) (e :: es) [] pos) (tGk C sp W t) := by
  obtain ⟨f, fd, ps, M, F, hm, hb⟩ := c.ex
  refine ⟨fun pins s σ H Q I h => wpAny_Call_Name_kw (ld_glob I hg hm ?_ hdb)⟩
  exact PySem.W.callWith_K (h₀ := X.base) I.ok.mod.kin M.kp (thn (ha.run pos pins s σ H _ I h) fun us s1 ⟨vs, H1, I1, r, q⟩ => ⟨I1.kIn, makes M F hr hb tk I1 r q⟩) he hpl
theorem gk0 (c : Mak X.prog X.w X.K X.mg X.base k x C sp) (hr : RG (k + 1) X.A) (tk : Takes X W) (hg : Gl X x := by rfl) (hdb : (x == ("__debug__" : Str)) = false := by decide) : PE X (.Call (.Name x p) [] [] pos) (tGk C sp W tNil) := by
  obtain ⟨f, fd, ps, M, F, hm, hb⟩ := c.ex
  exact ⟨fun pins s σ H Q I h => wpAny_Call_Name_kw (ld_glob I hg hm (PySem.W.callWith_K0 I.kIn M.kp (makes (us := []) M F hr hb tk I .nil h)) hdb)⟩
end

/-! ### repr -/
section
variable {X : Cx}
/-! data in which an empty dict may lie, all of it tracked -/
mutual
inductive DpE (H : Hp) : V → PyData → Prop
  | non : DpE H .non .none
  | bl (b : Bool) : DpE H (.bl b) (.bool b)
  | int (i : Int) : DpE H (.int i) (.int i)
  | str (x : Str) : DpE H (.str x) (.str x)
  | emp {a : Addr} : H a = some (.dK []) → DpE H (.ref a) (.dict [])
  | lst {a : Addr} {xs : List V} {ds : List PyData} : H a = some (.lst xs) → a ≠ sysModules → DpEs H xs ds → DpE H (.ref a) (.list ds)
  | tup {a : Addr} {xs : List V} {ds : List PyData} : H a = some (.tup xs) → DpEs H xs ds → DpE H (.ref a) (.tuple ds)
inductive DpEs (H : Hp) : List V → List PyData → Prop
  | nil : DpEs H [] []
  | cons {v : V} {vs : List V} {d : PyData} {ds : List PyData} : DpE H v d → DpEs H vs ds → DpEs H (v :: vs) (d :: ds)
end
mutual
theorem DpE.reads {pins : List (Addr × Obj)} {σ : St} {H : Hp} {s : Shared} (I : Inv X pins σ H s) : ∀ (d : PyData) (v : V) (u : Value), DpE H v d → RelV v u → ∃ as, Reads s.heap u d as ∧ sysModules ∉ as
  | .none, _, _, h, r => by
    cases h
    cases r
    exact ⟨_, Reads.none, by simp⟩
  | .bool b, _, _, h, r => by
    cases h
    cases r
    exact ⟨_, Reads.bool b, by simp⟩
  | .int i, _, _, h, r => by
    cases h
    obtain ⟨t, rfl⟩ := r
    exact ⟨_, Reads.int i t, by simp⟩
  | .str x, _, _, h, r => by
    cases h
    obtain ⟨t, rfl⟩ := r
    exact ⟨_, Reads.str x t, by simp⟩
  | .list ds, _, _, h, r => by
    cases h with
    | lst hs hns ha =>
      cases r
      obtain ⟨its, rv, ⟨o, n, ho, hc, _, hd⟩, _⟩ := I.list (SqL.of (K := X.K) hs)
      obtain ⟨as, hr, hn⟩ := DpE.readsAll I ds _ its ha rv
      exact ⟨_, Reads.list ho hc hd hr, by
        rw [List.mem_cons, not_or]
        exact ⟨hns.symm, hn⟩⟩
  | .tuple ds, _, _, h, r => by
    cases h with
    | tup hs ha =>
      cases r
      obtain ⟨its, rv, ⟨o, ho, hc, n, hd⟩, _⟩ := I.tuple (SqT.of (K := X.K) hs)
      obtain ⟨as, hr, hn⟩ := DpE.readsAll I ds _ its ha rv
      exact ⟨_, Reads.tuple ho hc hd hr, hn⟩
  | .dict kvs, _, _, h, r => by
    cases h with
    | emp hs =>
      cases r
      obtain ⟨z, hm, vs, rel, dd⟩ := dk_of I.hok hs
      cases rel
      obtain ⟨o, es, ep, ho, hx, hdt, he, hp, _⟩ := dd
      have e0 : es.toList = [] := by
        cases e : es.toList with
        | nil => rfl
        | cons x y => rw [e] at hp; cases hp
      refine ⟨_, Reads.dict (kvs := []) (as := []) (bs := []) ho hx.1 hdt (by rw [e0]; exact .nil) (by rw [e0]; exact .nil), ?_⟩
      simp only [List.append_nil, List.mem_cons, List.not_mem_nil, or_false]
      exact (beq_eq_false_iff_ne.mp hm).symm
theorem DpE.readsAll {pins : List (Addr × Obj)} {σ : St} {H : Hp} {s : Shared} (I : Inv X pins σ H s) : ∀ (ds : List PyData) (vs : List V) (us : List Value), DpEs H vs ds → Vals vs us → ∃ as, ReadsAll s.heap us ds as ∧ sysModules ∉ as
  | [], _, _, h, r => by
    cases h
    cases r
    exact ⟨_, ReadsAll.nil, by simp⟩
  | d :: ds, _, _, h, r => by
    cases h with
    | cons h1 h2 =>
      cases r with
      | cons r1 r2 =>
        obtain ⟨as, q1, n1⟩ := DpE.reads I d _ _ h1 r1
        obtain ⟨bs, q2, n2⟩ := DpE.readsAll I ds _ _ h2 r2
        exact ⟨_, ReadsAll.cons q1 q2, by rw [List.mem_append, not_or]; exact ⟨n1, n2⟩⟩
end
/-- repr(v), v data: its text -/
structure Shw (K : PySem.W.Frag) (H : Hp) (v : V) (d : PyData) : Prop where
  dp : Dp K H v d ∨ DpE H v d
  ok : d.showable = true
  len : d.shown.length ≤ sizeLine
  dep : d.depth ≤ 60
def rRepr (K : PySem.W.Frag) (vs : List V) (H : Hp) (Q : VK) : Prop := ∃ v d, vs = [v] ∧ Shw K H v d ∧ Q (.str d.shown) H
mutual
theorem dp_plain {K : PySem.W.Frag} {H : Hp} : ∀ (d : PyData) (v : V), Dp K H v d → d.hasDict = false
  | .none, _, _ => by simp only [PyData.hasDict]
  | .bool _, _, _ => by simp only [PyData.hasDict]
  | .int _, _, _ => by simp only [PyData.hasDict]
  | .str _, _, _ => by simp only [PyData.hasDict]
  | .list ds, _, h => by
    cases h with
    | lst _ a => simp only [PyData.hasDict]; exact dp_plains ds _ a
  | .tuple ds, _, h => by
    cases h with
    | tup _ a => simp only [PyData.hasDict]; exact dp_plains ds _ a
  | .dict _, _, h => by cases h
theorem dp_plains {K : PySem.W.Frag} {H : Hp} : ∀ (ds : List PyData) (vs : List V), DpAll K H vs ds → PyData.hasDictAll ds = false
  | [], _, _ => by simp only [PyData.hasDictAll]
  | d :: ds, _, h => by
    cases h with
    | cons a b => simp only [PyData.hasDictAll, dp_plain d _ a, dp_plains ds _ b, Bool.or_self]
end
theorem call_repr {k : Nat} (hr : RG k X.A) : CallR X (.builtin "repr") (rRepr X.K) := by
  intro pins s σ H xs us Q I r h
  obtain ⟨v, d, rfl, ⟨hd, hs, hl, hdp⟩, q⟩ := h
  obtain ⟨u, rfl, ru⟩ := vals1 r
  have un := hr.r.units
  rcases hd with hd | hd
  rotate_left
  · cases hd with
    | non => cases ru; exact PySem.P.repr_of_none ⟨.str _, H, I.tok _, ⟨_, rfl⟩, by simpa only [PyData.shown] using q⟩
    | bl b => cases ru; exact PySem.P.repr_of_bool ⟨.str _, H, I.tok _, ⟨_, rfl⟩, by simpa only [PyData.shown] using q⟩
    | int i =>
      obtain ⟨t, rfl⟩ := ru
      exact PySem.P.repr_of_int (by simpa only [PyData.showable, decide_eq_true_eq] using hs) ⟨.str _, H, I.tok _, ⟨_, rfl⟩, by simpa only [PyData.shown] using q⟩
    | str x =>
      obtain ⟨t, rfl⟩ := ru
      exact PySem.P.repr_of_str ⟨.str _, H, I.tok _, ⟨_, rfl⟩, by simpa only [PyData.shown] using q⟩ (by simpa only [PyData.shown] using hl)
    | emp a =>
      obtain rfl := ru
      obtain ⟨as, rd, nas⟩ := DpE.reads I _ _ _ (DpE.emp a) rfl
      exact repr_of_reads' rd hs (fun _ => nas) hr.g (by omega) (fun _ _ z => z) (fun h' u tk kp => ⟨.str _, H, I.kept kp, ⟨_, rfl⟩, q⟩) hl
    | lst a n b =>
      obtain rfl := ru
      obtain ⟨as, rd, nas⟩ := DpE.reads I _ _ _ (DpE.lst a n b) rfl
      exact repr_of_reads' rd hs (fun _ => nas) hr.g (by omega) (fun _ _ z => z) (fun h' u tk kp => ⟨.str _, H, I.kept kp, ⟨_, rfl⟩, q⟩) hl
    | tup a b =>
      obtain rfl := ru
      obtain ⟨as, rd, nas⟩ := DpE.reads I _ _ _ (DpE.tup a b) rfl
      exact repr_of_reads' rd hs (fun _ => nas) hr.g (by omega) (fun _ _ z => z) (fun h' u tk kp => ⟨.str _, H, I.kept kp, ⟨_, rfl⟩, q⟩) hl
  cases hd with
  | non => cases ru; exact PySem.P.repr_of_none ⟨.str _, H, I.tok _, ⟨_, rfl⟩, by simpa only [PyData.shown] using q⟩
  | bl b => cases ru; exact PySem.P.repr_of_bool ⟨.str _, H, I.tok _, ⟨_, rfl⟩, by simpa only [PyData.shown] using q⟩
  | int i =>
    obtain ⟨t, rfl⟩ := ru
    exact PySem.P.repr_of_int (by simpa only [PyData.showable, decide_eq_true_eq] using hs) ⟨.str _, H, I.tok _, ⟨_, rfl⟩, by simpa only [PyData.shown] using q⟩
  | str x =>
    obtain ⟨t, rfl⟩ := ru
    exact PySem.P.repr_of_str ⟨.str _, H, I.tok _, ⟨_, rfl⟩, by simpa only [PyData.shown] using q⟩ (by simpa only [PyData.shown] using hl)
  | lst a b =>
    obtain rfl := ru
    have hd2 := Dp.lst a b
    obtain ⟨as, rd⟩ := Dp.reads I _ _ _ hd2 rfl
    exact repr_of_reads' rd hs (PyData.noDict_hsm (dp_plain _ _ hd2)) hr.g (by omega) (fun _ _ z => z) (fun h' u tk kp => ⟨.str _, H, I.kept kp, ⟨_, rfl⟩, q⟩) hl
  | tup a b =>
    obtain rfl := ru
    have hd2 := Dp.tup a b
    obtain ⟨as, rd⟩ := Dp.reads I _ _ _ hd2 rfl
    exact repr_of_reads' rd hs (PyData.noDict_hsm (dp_plain _ _ hd2)) hr.g (by omega) (fun _ _ z => z) (fun h' u tk kp => ⟨.str _, H, I.kept kp, ⟨_, rfl⟩, q⟩) hl
theorem pe_repr {k : Nat} {x : Str} {p pos : Pos} {e : Expr} {te : TE} (hr : RG k X.A) (hm : X.mg "repr" = none) (he : PE X e te) (hg : Gl X "repr" := by rfl)
    (hs : starEach (e :: []) X.env = (false, eval e X.env) :: starEach [] X.env := by rfl) (hpl : (backTo pos (starEach [] X.env)).any (·.1) = false := by rfl) :
    PE X (.Call (.Name "repr" p) [e] [] pos) (tCB (rRepr X.K) (tCons te tNil)) := pe_callB (call_repr hr) hg hm boot_repr (pa_cons he pa_nil hs) (by decide) (by decide) hs hpl
end
end FG

/-! GEnd: the end of a law whose def keeps its promise where the guards are known. -/
namespace FG
open PySem PySem.Spec L2
open PyProof.Rows hiding St

theorem law_runs {P : Program} {w : World} {K : PySem.W.Frag} {mg mb : Str → Option Value} {k : Nat} {fa a : Addr} {fd : FuncData} {x : Str} {sp : Sp} {s : Shared} {vs : List Value} {ns : List Int}
    (inK : K.In s.heap) (gl : s.heap.Ns mainGlobals mg) (bl : s.heap.Ns builtinsNs mb) (bb : ∀ y : Str, y ≠ "__name__" → mb y = bootBuiltins y) (nol : s.heap.NoLimit) (gens : s.gens = #[])
    (la : s.heap.get? a = some { cls := .type "list", data := .seq vs.toArray }) (li : IntsAre vs ns) (ln : ns.length ≤ sizeLine) (hr : Room k callerA)
    (F : ∀ base : Heap, K.In base → base.Ns mainGlobals mg → FnG P w K mg base k fa fd [x] sp) (bnd : ∀ (s : Shared) (u : Value), BindsTo s fd ⟨[u], []⟩ [(x, u)])
    (hsp : ∀ H : Hp, Only H → SqL K H a (ns.map V.int) → sp [.ref a] H (fun v _ => v = .bl true) fun _ _ _ => False) :
    codeAny (model P w) callerA (.call (.ref fa) ⟨[.ref a], []⟩) (fun r s' => r = .ok (.ret (.bool true)) ∧ OldK s.heap s'.heap ∧ s'.os = s.os ∧ AllBare s'.gens) s := by
  have rels := vals_ints li
  have lens := li.length
  have main : ∀ H : Hp, Only H → SqL K H a (ns.map V.int) → HOk P w H s.heap → (∀ b u, H b = some u → b = a) → (∀ u, H a = some u → K.lookup a = none) →
      codeAny (model P w) callerA (.call (.ref fa) ⟨[.ref a], []⟩) (fun r s' => r = .ok (.ret (.bool true)) ∧ OldK s.heap s'.heap ∧ s'.os = s.os ∧ AllBare s'.gens) s := by
    intro H only seq hok atA notK
    have noDict : ∀ {b : Addr} {o : Obj} {es : Array DictEntry} {ep : Nat}, s.heap.get? b = some o → o.data = .dict es ep → H b = none := by
      intro b o es ep e d
      cases q : H b with
      | none => rfl
      | some u =>
        obtain rfl := atA b u q
        rw [la] at e
        cases e
        cases (show Data.seq vs.toArray _ = Data.dict es ep from d)
    have ns2 : ∀ {b : Addr} {m : Str → Option Value}, s.heap.Ns b m → (hidT s.heap H).Ns b m := by
      rintro b m ⟨o, es, ep, e, d, r⟩
      exact ⟨o, es, ep, hidT_get e (noDict e d), d, r⟩
    have inK2 : K.In (hidT s.heap H) := by
      intro b o e
      refine hidT_get (inK b o e) ?_
      cases q : H b with
      | none => rfl
      | some u =>
        obtain rfl := atA b u q
        rw [notK u q] at e
        cases e
    have md : Mod K mg (hidT s.heap H) := by
      obtain ⟨mc, c1, c2⟩ := nol
      exact ⟨inK2, ns2 gl, ⟨mb, ns2 bl, bb⟩, mc, ns2 c1, c2⟩
    have env0 : Env0 P w K mg (hidT s.heap H) callerA [] s H :=
      ⟨rfl, md, fun b o e => of_hidT e, Nat.le_of_eq (hidT_size _ _), trivial, (fun b hb => by cases (show b ∈ ([] : List Addr) from hb)), hok, .of_eq gens⟩
    refine codeAny_mono ((F _ inK2 (ns2 gl)).goes callerA [] s H ⟨[.ref a], []⟩ [.ref a] [.ref a] _ _ ⟨hr, rfl⟩ env0 (bnd s (.ref a)) (.cons rfl .nil) (hsp H only seq)) fun r s2 hq => ?_
    match r, hq with
    | .error e, hq =>
      obtain ⟨_, _, _, _, _, _, _, _, _, _, _, _, z⟩ := hq
      exact z.elim
    | .ok .next, hq => exact hq.elim
    | .ok .brk, hq => exact hq.elim
    | .ok .cont, hq => exact hq.elim
    | .ok (.ret u), hq =>
      obtain ⟨v, H2, os, bare, un, hok2, rv, q⟩ := hq
      obtain rfl : v = .bl true := q
      obtain rfl : u = Value.bool true := rv
      refine ⟨rfl, OldK.of_keep fun b o e => ?_, os, bare⟩
      cases hb : H b with
      | none => exact un.keep b o e hb (fun z => by cases (show b ∈ ([] : List Addr) from z)) (fun z => by cases (show b ∈ ([] : List Addr) from z))
      | some y =>
        obtain z | ⟨ob, xs, z⟩ := only b
        · rw [hb] at z
          cases z
        · have e1 := (hok b _ z).1
          have e2 := (hok2 b _ (un.frzs b ob _ z)).1
          rw [e] at e1
          cases e1
          exact e2
  cases hk : K.lookup a with
  | some o =>
    have e := inK a o hk
    rw [la] at e
    cases e
    exact main (fun _ => none) (fun _ => .inl rfl) (.inr ⟨_, vs.toArray, _, hk, rfl, rfl, rfl, by rw [List.size_toArray, lens]; exact ln, by simpa using rels⟩) (fun b u z => by cases z) (fun b u z => by cases z) fun u z => by cases z
  | none =>
    let H1 : Hp := fun b => if b = a then some (.frz { cls := .type "list", data := .seq vs.toArray } (.lst (ns.map V.int))) else none
    have ha : H1 a = some (.frz { cls := .type "list", data := .seq vs.toArray } (.lst (ns.map V.int))) := if_pos rfl
    have hne : ∀ b, b ≠ a → H1 b = none := fun b hb => if_neg hb
    refine main H1 (fun b => ?_) (.inl (.inr ⟨_, ha⟩)) (fun b u z => ?_) (fun b u z => ?_) fun _ _ => hk
    · by_cases hb : b = a
      · subst hb
        exact .inr ⟨_, _, ha⟩
      · exact .inl (hne b hb)
    · by_cases hb : b = a
      · subst hb
        rw [ha] at z
        cases z
        exact ⟨la, by rw [List.length_map]; exact ln, vs, _, rels, la⟩
      · rw [hne b hb] at z
        cases z
    · by_cases hb : b = a
      · exact hb
      · rw [hne b hb] at z
        cases z

/-- the goal that a head by facts leaves -/
theorem walk_G {l : PySem.W.OpenLaw} {n k : Nat} {q : Program} {loose : List Str} {XP : (Str → Option Value) → Heap → Prop} {YP : World → Heap → Prop} {d : DefRec} {x : Str}
    (hn : l.most = some n) (hn2 : n ≤ sizeLine) (hdf : d.params.defaults = []) (hr : Room k callerA)
    (F : ∀ (w : World) (mg : Str → Option Value) (fa : Addr) (h : Heap), YP w h → h.Ns mainGlobals mg → mg d.name = some (.ref fa) →
      ∃ (K : PySem.W.Frag) (fd : FuncData) (sp : Sp), K.In h ∧ (∀ (s : Shared) (u : Value), BindsTo s fd ⟨[u], []⟩ [(x, u)]) ∧
        (∀ (H : Hp) (a : Addr) (ns : List Int), ns.length ≤ n → (∀ z ∈ ns, Builtin.Int.intBits z ≤ 1048576) → Only H → SqL K H a (ns.map V.int) → sp [.ref a] H (fun v _ => v = .bl true) fun _ _ _ => False) ∧
        ∀ base : Heap, K.In base → base.Ns mainGlobals mg → FnG l.prog w K mg base k fa fd [x] sp) :
    PySem.W.WalkO q loose XP YP l.row.toRowW d [] (fun f vs => PySem.call f vs) := by
  refine Att.attach_callB hn hdf fun w s₀ s₁ mg mb fa o pm cd doc a vs ns G Y ho hd hcd hmg hobj hints hlen bits gens => ?_
  obtain ⟨K, fd, sp, inK, hb, hsp, hF⟩ := F w mg fa _ Y G.T.g hmg
  exact law_runs inK G.T.g G.T.b G.T.builtins G.T.nolimit gens hobj hints (Nat.le_trans hlen hn2) hr hF hb fun H hO hS => hsp H a ns hlen bits hO hS

section
variable {P : Program} {w : World} {K : PySem.W.Frag} {mg : Str → Option Value} {base : Heap} {k : Nat} {x m q : Str} {st : Stmt} {f C : Addr} {ps : List Str} {sp : Sp}
theorem Cal.of (g : mg x = some (.ref f)) (F : ∃ fd, Fun K x q st f fd) (b : ∀ {fd}, Fun K x q st f fd → Binds K fd ps []) (h : ∀ {fd}, Fun K x q st f fd → FnG P w K mg base k f fd ps sp) : Cal P w K mg base k x sp :=
  let ⟨fd, z⟩ := F; ⟨f, fd, ps, h z, g, z.kp, b z⟩
theorem Met.of (c : Cls K C) (mt : Meth K C m f) (F : ∃ fd, Fun K x q st f fd) (b : ∀ {fd}, Fun K x q st f fd → Binds K fd ps []) (h : ∀ {fd}, Fun K x q st f fd → FnG P w K mg base k f fd ps sp) : Met P w K mg base k C m sp :=
  let ⟨fd, z⟩ := F; ⟨f, fd, ps, c, mt, h z, b z⟩
theorem Mak.of (M : Mk K C f) (g : mg m = some (.ref C)) (F : ∃ fd, Fun K x q st f fd) (b : ∀ {fd}, Fun K x q st f fd → Binds K fd ps []) (h : ∀ {fd}, Fun K x q st f fd → FnG P w K mg base k f fd ps sp) : Mak P w K mg base k m C sp :=
  let ⟨fd, z⟩ := F; ⟨f, fd, ps, M, h z, g, b z⟩
end
/-- a def without defaults as a Fun -/
theorem toFun {K : PySem.W.Frag} {x qual : Str} {st : Stmt} {f : Addr} {fd : FuncData} (F : FunD K x qual (defArgs st) (defBody st) (defScope st) [] [] f fd) : Fun K x qual st f fd := by
  obtain ⟨oc, od, dV, kV, doc, pm, an, cdv, ct, osl, rfl, lk, cd, dv, _⟩ := F.ex
  rcases dv with ⟨_, rfl⟩ | ⟨z, _⟩
  · exact ⟨⟨oc, od, kV, doc, pm, an, cdv, ct, osl, rfl, lk, cd⟩, F.kp⟩
  · exact absurd rfl z
end FG

/-! GK: the layer's rules, their readings told over a named written part (so that they can stand within a comprehension). -/
namespace FG
open PySem PySem.Spec L2
open PyProof.Rows hiding St
section
variable {X : Cx} {e o a b : Expr} {es : List Expr} {f name : Str} {pos apos cpos p p2 p3 : Pos} {ta te tb to : TE} {t : TA} {T id : String} {r : V → List V → Hp → VK → Prop}
theorem kfld (K : PySem.W.Frag) (he : PE X e ta) (hb : attributeBase e f X.env (eval e X.env) = eval e X.env := by rfl) (hK : X.K = K := by rfl) : PE X (.Attribute e f pos) (tFld K ta f) := by subst hK; exact pe_fld he hb
theorem kixL (K : PySem.W.Frag) (hK : X.K = K := by rfl) : IxR X (rIxL K) := by subst hK; exact ix_list
theorem kixT (K : PySem.W.Frag) (hK : X.K = K := by rfl) : IxR X (rIxT K) := by subst hK; exact ix_tup
theorem kslL (K : PySem.W.Frag) (hK : X.K = K := by rfl) : SlR X (rSlL K) := by subst hK; exact sl_list
theorem kslT (K : PySem.W.Frag) (hK : X.K = K := by rfl) : SlR X (rSlT K) := by subst hK; exact sl_tup
theorem kin (K : PySem.W.Frag) (hK : X.K = K := by rfl) : OpR X (compareOp .In) (rIn K false) := by subst hK; exact op_in_seq
theorem knotIn (K : PySem.W.Frag) (hK : X.K = K := by rfl) : OpR X (compareOp .NotIn) (rIn K true) := by subst hK; exact op_notIn_seq
theorem keqD (K : PySem.W.Frag) (hu : X.A.units + 64 < cLine) (hK : X.K = K := by rfl) : OpR X (compareOp .Eq) (rEqD K) := by subst hK; exact op_eqD hu
theorem kneD (K : PySem.W.Frag) (hu : X.A.units + 64 < cLine) (hK : X.K = K := by rfl) : OpR X (compareOp .NotEq) (rNeD K) := by subst hK; exact op_neD hu
theorem knotInD (K : PySem.W.Frag) (hu : X.A.units + 65 < cLine) (hK : X.K = K := by rfl) : OpR X (compareOp .NotIn) (rNotInD K) := by subst hK; exact op_notInD hu
theorem kcatT (K : PySem.W.Frag) (hK : X.K = K := by rfl) : OpR X (binaryOp .Add) (rCatT K) := by subst hK; exact op_catT
def rLenS (K : PySem.W.Frag) (xs : List V) (H : Hp) (Q : VK) : Prop := ∃ p ys, xs = [.ref p] ∧ (SqL K H p ys ∨ SqT K H p ys) ∧ Q (.int ys.length) H
theorem klen (K : PySem.W.Frag) (hK : X.K = K := by rfl) : CallR X (.builtin "len") (rLenS K) := by subst hK; exact call_len_seq
def rListOf (K : PySem.W.Frag) (xs : List V) (H : Hp) (Q : VK) : Prop := ∃ p ys, xs = [.ref p] ∧ (SqL K H p ys ∨ SqT K H p ys) ∧ ∀ l, H l = none → Q (.ref l) (upd H l (.lst ys))
theorem klist (K : PySem.W.Frag) (hK : X.K = K := by rfl) : CallR X (.type "list") (rListOf K) := by subst hK; exact call_list_of
def rTupOf (K : PySem.W.Frag) (xs : List V) (H : Hp) (Q : VK) : Prop := ∃ p ys, xs = [.ref p] ∧ ((SqL K H p ys ∧ ∀ l, H l = none → Q (.ref l) (upd H l (.tup ys))) ∨ (SqT K H p ys ∧ Q (.ref p) H))
theorem ktuple (K : PySem.W.Frag) (hK : X.K = K := by rfl) : CallR X (.type "tuple") (rTupOf K) := by subst hK; exact call_tuple_of
theorem ksum (K : PySem.W.Frag) (hc : X.calm = true := by rfl) (hK : X.K = K := by rfl) : CallR X (.builtin "sum") (rSum K) := by subst hK; exact cr_sum hc
theorem kmax (K : PySem.W.Frag) (hc : X.calm = true := by rfl) (hK : X.K = K := by rfl) : CallR X (.builtin "max") (rMax K) := by subst hK; exact cr_max hc
theorem kmin (K : PySem.W.Frag) (hc : X.calm = true := by rfl) (hK : X.K = K := by rfl) : CallR X (.builtin "min") (rMin K) := by subst hK; exact cr_min hc
theorem kany (K : PySem.W.Frag) (hc : X.calm = true := by rfl) (hK : X.K = K := by rfl) : CallR X (.builtin "any") (rAny K) := by subst hK; exact cr_any hc
theorem kall (K : PySem.W.Frag) (hc : X.calm = true := by rfl) (hK : X.K = K := by rfl) : CallR X (.builtin "all") (rAll K) := by subst hK; exact cr_all hc
theorem kisi (K : PySem.W.Frag) (hK : X.K = K := by rfl) : CallR X (.builtin "isinstance") (rIsi K) := by subst hK; exact call_isi
theorem kbm0 (K : PySem.W.Frag) (pa : PlainAttrs T) (slot : Slot T name id) (hty : typeOf (.builtin id) = pure (.type "method_descriptor")) (hm : MtR X id r) (ho : PE X o to)
    (hbase : attributeBase o name X.env (eval o X.env) = eval o X.env := by rfl) (hline : (apos.endLine == cpos.line) = true := by rfl) (hK : X.K = K := by rfl) : PE X (.Call (.Attribute o name apos) [] [] cpos) (tBM0 K T r to) := by
  subst hK; exact pe_bm0 pa slot hty hm ho hbase hline
theorem kbm (K : PySem.W.Frag) (pa : PlainAttrs T) (slot : Slot T name id) (hty : typeOf (.builtin id) = pure (.type "method_descriptor")) (hm : MtR X id r) (ho : PE X o to) (ha : PA X (e :: es) t)
    (hbase : attributeBase o name X.env (eval o X.env) = eval o X.env := by rfl)
    (hfew : ((backTo cpos (starEach (e :: es) X.env)).all (fun x => !x.1) && (backToKw cpos (keywordEach [] X.env)).all (fun x => x.1.isSome) && decide ((e :: es).length + ([] : List Keyword).length + (if ([] : List Keyword).isEmpty then 0 else 1) < 30)) = true := by rfl)
    (hline : (apos.endLine == cpos.line) = true := by rfl) (hs : starEach (e :: es) X.env = (false, eval e X.env) :: starEach es X.env := by rfl) (hpl : (backTo cpos (starEach es X.env)).any (·.1) = false := by rfl) (hK : X.K = K := by rfl) :
    PE X (.Call (.Attribute o name apos) (e :: es) [] cpos) (tBM K T r to t) := by
  subst hK; exact pe_bm pa slot hty hm ho ha hbase hfew hline hs hpl
theorem krevL (K : PySem.W.Frag) {k : Nat} {p1 : Pos} (he : PE X e te) (hK : X.K = K := by rfl) : PE X (.Subscript e (.Slice none none (some (.UnaryOp .USub (.Constant (.int 1) k p1) p2)) p3) pos) (tRevL K te) := by subst hK; exact pe_revL he
theorem kiL (K : PySem.W.Frag) {tg : Expr} (he : PE X e te) (hK : X.K = K := by rfl) : PI X tg e (iList K te) := by subst hK; exact pi_list he
theorem kiT (K : PySem.W.Frag) {tg : Expr} (he : PE X e te) (hK : X.K = K := by rfl) : PI X tg e (iTup K te) := by subst hK; exact pi_tup he
theorem kiRev (K : PySem.W.Frag) {tg : Expr} (hg : Gl X "reversed") (hm : X.mg "reversed" = none) (ha : PA X [e] t) (hs : starEach [e] X.env = [(false, eval e X.env)] := by rfl) (hK : X.K = K := by rfl) :
    PI X tg (.Call (.Name "reversed" p) [e] [] pos) (iRev K t) := by subst hK; exact pi_reversed hg hm ha hs
theorem kgT (K : PySem.W.Frag) {k n : Nat} {tgs : TGs} (hc : X.calm = true) (h : PGs X es tgs) (hn : (assignEach es X.env).length = n := by rfl) (hst : (assignEach es X.env).findIdx? (·.1) = none := by rfl) (hK : X.K = K := by rfl) :
    PG X (.Tuple es k pos) (gTup K n tgs) := by subst hK; exact pg_tup hc h hn hst
def tTru (K : PySem.W.Frag) (te : TE) : TT := fun σ H Q => te σ H fun x H1 => ∃ k, TruV K x H1 k ∧ Q k H1
theorem ktru (K : PySem.W.Frag) (ha : PE X a ta) (he : ∀ whole, isTrue a X.env whole = (do let v ← whole; standAt a.pos; holding [v] (truthy v)) := by intro _; rfl) (hK : X.K = K := by rfl) : PT X a (tTru K ta) := by subst hK; exact pt_truth ha he
theorem krepr (K : PySem.W.Frag) {k : Nat} (hr : RG k X.A) (hm : X.mg "repr" = none) (he : PE X e te) (hg : Gl X "repr" := by rfl)
    (hs : starEach (e :: []) X.env = (false, eval e X.env) :: starEach [] X.env := by rfl) (hpl : (backTo pos (starEach [] X.env)).any (·.1) = false := by rfl) (hK : X.K = K := by rfl) :
    PE X (.Call (.Name "repr" p) [e] [] pos) (tCB (rRepr K) (tCons te tNil)) := by subst hK; exact pe_callB (call_repr hr) hg hm boot_repr (pa_cons he pa_nil hs) (by decide) (by decide) hs hpl
theorem ksFld (K : PySem.W.Frag) {p' : Pos} {v : Expr} {tv : TE} (ha : PE X o to) (hv : PE X v tv) (hs : swapsWith v (some (.Attribute o f p')) pos.line X.env = pure false := by rfl) (hK : X.K = K := by rfl) : PS X (.Assign [.Attribute o f p'] v pos) (sFld K to tv f) := by subst hK; exact ps_fld ha hv hs
/-- xs == [] -/
def rEqE (K : PySem.W.Frag) : R2 := fun x y H Q => ∃ a b xs, x = .ref a ∧ y = .ref b ∧ SqL K H a xs ∧ SqL K H b [] ∧ Q (.bl xs.isEmpty) H
theorem keqE (K : PySem.W.Frag) (hu : X.A.units + 64 < cLine) (hK : X.K = K := by rfl) : OpR X (compareOp .Eq) (rEqE K) := by
  subst hK
  intro pins s σ H x y v u Q I rx ry h
  obtain ⟨a, b, xs, rfl, rfl, ha, hb, q⟩ := h
  cases (show v = Value.ref a from rx)
  cases (show u = Value.ref b from ry)
  obtain ⟨us, r1, p1, _⟩ := I.list ha
  obtain ⟨ws, r2, p2, _⟩ := I.list hb
  cases r2
  cases r1 with
  | nil => exact SeqAt.RcAt.lists (e := fun _ => true) p1.isList p2.isList rfl (by omega) (fun j h1 _ => absurd h1 (Nat.not_lt_zero j)) _ _ _ _ ⟨.bl true, H, I, rfl, q⟩
  | cons c d => exact SeqAt.RcAt.lists_lengths p1.isList p2.isList (by simp) (by omega) _ _ _ _ ⟨.bl false, H, I, rfl, q⟩
end
end FG

/-! GRepr: the texts of small data fit. -/
namespace FG
open PySem PySem.Spec L2
open PyProof.Rows hiding St
mutual
/-- numbers of at most 38 figures, signs below 16 ^ 8 -/
def okD : PyData → Bool
  | .none | .bool _ => true
  | .int i => decide (i.natAbs < 10 ^ 38)
  | .str x => x.cps.toList.all fun c => c < 16 ^ 8
  | .list xs | .tuple xs => okDs xs
  | .dict kvs => kvs.isEmpty
def okDs : List PyData → Bool
  | [] => true
  | x :: xs => okD x && okDs xs
end
theorem int_short {i : Int} (h : i.natAbs < 10 ^ 38) : (PyData.shown (.int i)).length ≤ 40 := by
  have h1 := int_text_length_le10 (a := i) (k := 38) (by decide) h
  have h2 : (PyData.shown (.int i)).length = (toString i).length := by
    show (Str.ofString (toString i)).length = _
    rw [PySem.ofString_length]
  omega
theorem log_small {i : Int} (h : i.natAbs < 10 ^ 38) : i.natAbs.log2 < 1920 := log2_small (Nat.lt_trans h (by decide +kernel))
mutual
theorem okD_leaves : ∀ d : PyData, okD d = true → d.leavesShort 40 = true ∧ d.showable = true
  | .none, _ => ⟨by simp only [PyData.leavesShort], by simp only [PyData.showable]⟩
  | .bool _, _ => ⟨by simp only [PyData.leavesShort], by simp only [PyData.showable]⟩
  | .int i, h => by
    have h2 : i.natAbs < 10 ^ 38 := by simpa only [okD, decide_eq_true_eq] using h
    exact ⟨by simp only [PyData.leavesShort, decide_eq_true_eq]; exact int_short h2, by simp only [PyData.showable, decide_eq_true_eq]; exact log_small h2⟩
  | .str x, h => ⟨by simpa only [okD, PyData.leavesShort] using h, by simp only [PyData.showable]⟩
  | .list xs, h => by
    have z := okDs_leaves xs (by simpa only [okD] using h)
    exact ⟨by simp only [PyData.leavesShort]; exact z.1, by simp only [PyData.showable]; exact z.2⟩
  | .tuple xs, h => by
    have z := okDs_leaves xs (by simpa only [okD] using h)
    exact ⟨by simp only [PyData.leavesShort]; exact z.1, by simp only [PyData.showable]; exact z.2⟩
  | .dict [], _ => ⟨by simp only [PyData.leavesShort, PyData.leavesShortKv], by simp only [PyData.showable, PyData.showableKv]⟩
  | .dict (_ :: _), h => by simp [okD] at h
theorem okDs_leaves : ∀ ds : List PyData, okDs ds = true → PyData.leavesShortAll 40 ds = true ∧ PyData.showableAll ds = true
  | [], _ => ⟨by simp only [PyData.leavesShortAll], by simp only [PyData.showableAll]⟩
  | d :: ds, h => by
    have h2 : okD d = true ∧ okDs ds = true := by simpa only [okDs, Bool.and_eq_true] using h
    have a := okD_leaves d h2.1
    have b := okDs_leaves ds h2.2
    exact ⟨by simp only [PyData.leavesShortAll, a.1, b.1, Bool.and_self], by simp only [PyData.showableAll, a.2, b.2, Bool.and_self]⟩
end
theorem shw_at {K : PySem.W.Frag} {v : V} {d : PyData} {H : Hp} (hd : Dp K H v d) (ok : okD d = true) (hb : d.bulk ≤ 300000) (hdep : d.depth ≤ 60) : Shw K H v d := by
  obtain ⟨h1, h2⟩ := okD_leaves d ok
  refine ⟨.inl hd, h2, ?_, hdep⟩
  have := PyData.shown_le_bulk 40 (by decide) d h1
  rw [sizeLine_eq]
  omega
theorem shw_atE {K : PySem.W.Frag} {v : V} {d : PyData} {H : Hp} (hd : DpE H v d) (ok : okD d = true) (hb : d.bulk ≤ 300000) (hdep : d.depth ≤ 60) : Shw K H v d := by
  obtain ⟨h1, h2⟩ := okD_leaves d ok
  refine ⟨.inr hd, h2, ?_, hdep⟩
  have := PyData.shown_le_bulk 40 (by decide) d h1
  rw [sizeLine_eq]
  omega
theorem okDs_of {ds : List PyData} (h : ∀ d ∈ ds, okD d = true) : okDs ds = true := by
  induction ds with
  | nil => simp only [okDs]
  | cons d ds ih =>
    simp only [okDs, Bool.and_eq_true]
    exact ⟨h d (by simp), ih fun x hx => h x (by simp [hx])⟩
theorem bulk_flat {ds : List PyData} (h : ∀ d ∈ ds, d.bulk = 0) : PyData.bulkAll ds = ds.length := by
  induction ds with
  | nil => simp only [PyData.bulkAll, List.length_nil]
  | cons d ds ih =>
    simp only [PyData.bulkAll, List.length_cons]
    rw [h d (by simp), ih fun x hx => h x (by simp [hx])]; omega
theorem depth_flat {ds : List PyData} (h : ∀ d ∈ ds, d.depth = 0) : PyData.depthAll ds = 0 := by
  induction ds with
  | nil => simp only [PyData.depthAll]
  | cons d ds ih =>
    simp only [PyData.depthAll]
    rw [h d (by simp), ih fun x hx => h x (by simp [hx])]; rfl
theorem shw_int {K : PySem.W.Frag} {i : Int} {H : Hp} (h : i.natAbs < 10 ^ 38) : Shw K H (.int i) (.int i) :=
  shw_at (.int i) (by simp only [okD, decide_eq_true_eq]; exact h) (by simp only [PyData.bulk]; omega) (by simp only [PyData.depth]; omega)
theorem shw_small {K : PySem.W.Frag} {i : Int} {H : Hp} (h : i.natAbs < 1000000000000) : Shw K H (.int i) (.int i) := shw_int (Nat.lt_trans h (by decide))
theorem shw_bool {K : PySem.W.Frag} {b : Bool} {H : Hp} : Shw K H (.bl b) (.bool b) :=
  shw_at (.bl b) (by simp only [okD]) (by simp only [PyData.bulk]; omega) (by simp only [PyData.depth]; omega)
theorem shw_none {K : PySem.W.Frag} {H : Hp} : Shw K H .non .none :=
  shw_at .non (by simp only [okD]) (by simp only [PyData.bulk]; omega) (by simp only [PyData.depth]; omega)
end FG

/-! GExc: own exceptions with fields: what the written part says, made and raised, caught by clauses with and without a name, asked in a suite. Own layer over HandS. -/
namespace FG
open PySem PySem.Spec L2
open PyProof.Rows hiding St

/-! ### facts -/
theorem ba2 {a b : Bool} (h : (a && b) = true) : a = true ∧ b = true := Bool.and_eq_true_iff.mp h
def oexB (K : PySem.W.Frag) (C : Addr) : Bool := (match K.lookup C with
  | some ⟨.type ty, _, .cls cd, sl⟩ => (match cd.mro, sl.toList with
    | .ref C' :: bm, [_, _, _, _, some (.builtin n), _] => decide (ty = "type") && (decide (C' = C) && (HandSPX.refsVE bm && (cd.hasDict && (!cd.hasDel && decide (n = "ValueError.__new__")))))
    | _, _ => false)
  | _ => false) && (decide (PySem.W.findIn K (.ref C) "__setattr__" = some (some (.builtin "object.__setattr__"))) && (decide (PySem.W.subIn K (.ref C) (.type "BaseException") = some true) && (decide (PySem.W.typeIn K (.ref C) = some (.type "type")) && PySem.W.keepIn K (.ref C))))
theorem oexB_ok {K : PySem.W.Frag} {C : Addr} (h : oexB K C = true) : OexC K C := by
  unfold oexB at h
  obtain ⟨h1, h⟩ := ba2 h
  obtain ⟨h2, h⟩ := ba2 h
  obtain ⟨h3, h⟩ := ba2 h
  obtain ⟨h4, h5⟩ := ba2 h
  refine ⟨?_, of_decide_eq_true h2, of_decide_eq_true h3, of_decide_eq_true h4, h5⟩
  split at h1
  · rename_i ty dd cd sl ho
    split at h1
    · rename_i C' bm k0 k1 k2 k3 n k5 hm hs
      simp only [Bool.and_eq_true, decide_eq_true_eq, Bool.not_eq_true'] at h1
      obtain ⟨rfl, rfl, hr, hd, hdel, rfl⟩ := h1
      obtain ⟨nm, bs, mro, ns, qn, hd', sn, sub, ab, col, del⟩ := cd
      dsimp only at hm hd hdel
      subst hm hd hdel
      have hsl : sl = #[k0, k1, k2, k3, some (.builtin "ValueError.__new__"), k5] := by
        obtain ⟨l⟩ := sl
        simp only at hs
        rw [hs]
      subst hsl
      exact ⟨nm, qn, ns, bs, bm, sn, sub, ab, col, dd, k0, k1, k2, k3, k5, ho, hr⟩
    · cases h1
  · cases h1
/-- what isinstance and an instance's fields ask of the class -/
def excB (K : PySem.W.Frag) (D : Addr) : Bool :=
  decide (PySem.W.findIn K (.ref D) "__getattribute__" = some (some (.builtin "BaseException.__getattribute__"))) && (decide (PySem.W.findIn K (.ref D) "__getattr__" = some none) && (decide (PySem.W.subIn K (.ref D) (.type "BaseException") = some true) &&
  (PySem.W.hasDictIn K D && (decide (PySem.W.findIn K (.ref D) "__class__" = some (some (.builtin "object.__class__"))) && (decide (PySem.W.specialIn K (.builtin "object.__class__") "__get__" = some (some (.builtin "getset_descriptor.__get__"))) &&
  (decide (PySem.W.takesIn K (.builtin "object.__class__") = some true) && decide (PySem.W.mroIn K D (.type "object") = some true)))))))
theorem excB_ok {K : PySem.W.Frag} {D : Addr} (h : excB K D = true) : ExcC K D ∧ XfC K D := by
  unfold excB at h
  obtain ⟨h1, h⟩ := ba2 h
  obtain ⟨h2, h⟩ := ba2 h
  obtain ⟨h3, h⟩ := ba2 h
  obtain ⟨h4, h⟩ := ba2 h
  obtain ⟨h5, h⟩ := ba2 h
  obtain ⟨h6, h⟩ := ba2 h
  obtain ⟨h7, h8⟩ := ba2 h
  exact ⟨⟨of_decide_eq_true h1, of_decide_eq_true h2, of_decide_eq_true h3, h4, of_decide_eq_true h5, of_decide_eq_true h6, of_decide_eq_true h7, of_decide_eq_true h8⟩, ⟨of_decide_eq_true h1, of_decide_eq_true h2, of_decide_eq_true h3, h4⟩⟩
/-- an own exception class with these fields -/
structure XC (K : PySem.W.Frag) (C : Addr) (fs : List Str) : Prop where
  o : OexC K C
  e : ExcC K C
  x : XfC K C
  no : ∀ f ∈ fs, PySem.W.findIn K (.ref C) f = some none
/-- its own __init__ -/
structure XI (K : PySem.W.Frag) (C f : Addr) : Prop where
  i : PySem.W.findIn K (.ref C) "__init__" = some (some (.ref f))
  t : PySem.W.typeIn K (.ref f) = some (.type "function")
/-- an own exception class without __init__ -/
structure X0 (K : PySem.W.Frag) (C : Addr) : Prop where
  q : PySem.W.excIn K C He.veBase "ValueError.__new__" = true
  k : PySem.W.keepIn K (.ref C) = true
  s : PySem.W.subIn K (.ref C) (.type "BaseException") = some true
  t : PySem.W.typeIn K (.ref C) = some (.type "type")
  e : ExcC K C
/-- what is told of the written part beyond the kit's facts -/
inductive Xa where
  | oex (c : Str) (fs : List Str)
  | zer (c : Str)
  | exm (c d : Str) (b : Bool)
  | isi (c d : Str) (b : Bool)
  | prop (f : PySem.W.Frag → Bool)
def Xa.ok (K : PySem.W.Frag) : Xa → Bool
  | .oex c fs => oexB K (He.ga K c) && (excB K (He.ga K c) && (fs.all (fun f => decide (PySem.W.findIn K (.ref (He.ga K c)) f = some none)) && (decide (PySem.W.findIn K (.ref (He.ga K c)) "__init__" = some (some (.ref (He.ma K (He.ga K c) "__init__")))) &&
      decide (PySem.W.typeIn K (.ref (He.ma K (He.ga K c) "__init__")) = some (.type "function")))))
  | .zer c => PySem.W.excIn K (He.ga K c) He.veBase "ValueError.__new__" && (PySem.W.keepIn K (.ref (He.ga K c)) && (decide (PySem.W.subIn K (.ref (He.ga K c)) (.type "BaseException") = some true) && (decide (PySem.W.typeIn K (.ref (He.ga K c)) = some (.type "type")) && excB K (He.ga K c))))
  | .exm c d b => decide (PySem.W.exmOne K (.ref (He.ga K c)) (.ref (He.ga K d)) = some b)
  | .isi c d b => decide (PySem.W.kitOne K (.ref (He.ga K c)) (.ref (He.ga K d)) = some b)
  | .prop f => f K
theorem oex_ok {K : PySem.W.Frag} {c : Str} {fs : List Str} (h : (Xa.oex c fs).ok K = true) : XC K (He.ga K c) fs ∧ XI K (He.ga K c) (He.ma K (He.ga K c) "__init__") := by
  obtain ⟨h1, h⟩ := ba2 h
  obtain ⟨h2, h⟩ := ba2 h
  obtain ⟨h3, h⟩ := ba2 h
  obtain ⟨h4, h5⟩ := ba2 h
  obtain ⟨e, x⟩ := excB_ok h2
  exact ⟨⟨oexB_ok h1, e, x, fun f hf => of_decide_eq_true (List.all_eq_true.mp h3 f hf)⟩, ⟨of_decide_eq_true h4, of_decide_eq_true h5⟩⟩
theorem zer_ok {K : PySem.W.Frag} {c : Str} (h : (Xa.zer c).ok K = true) : X0 K (He.ga K c) := by
  obtain ⟨h1, h⟩ := ba2 h
  obtain ⟨h2, h⟩ := ba2 h
  obtain ⟨h3, h⟩ := ba2 h
  obtain ⟨h4, h5⟩ := ba2 h
  exact ⟨h1, h2, of_decide_eq_true h3, of_decide_eq_true h4, (excB_ok h5).1⟩
theorem exm_ok {K : PySem.W.Frag} {c d : Str} {b : Bool} (h : (Xa.exm c d b).ok K = true) : PySem.W.exmOne K (.ref (He.ga K c)) (.ref (He.ga K d)) = some b := of_decide_eq_true h
theorem isi_ok {K : PySem.W.Frag} {c d : Str} {b : Bool} (h : (Xa.isi c d b).ok K = true) : PySem.W.kitOne K (.ref (He.ga K c)) (.ref (He.ga K d)) = some b := of_decide_eq_true h
theorem xa_at {K : PySem.W.Frag} {l : List Xa} (h : (l.all fun x => x.ok K) = true) (i : Nat) {x : Xa} (hx : l[i]? = some x) : x.ok K = true := List.all_eq_true.mp h x (List.mem_of_getElem? hx)

/-! ### made and raised -/
/-- what such an __init__ does: self.f1 = y1; self.f2 = y2; .. -/
def spIni (K : PySem.W.Frag) (fs : List Str) : Sp := fun vs H Q _ => ∃ (a C : Addr) (ys : List V), vs = .ref a :: ys ∧ ys.length = fs.length ∧ XC K C fs ∧ H a = some (exo a C none) ∧
  ∀ d H', H d = none → d ≠ a → H' a = some (exo a C (some d)) → H' d = some (exd d (fs.zip ys).reverse) → (∀ b, b ≠ a → b ≠ d → H' b = H b) → Q .non H'
/-- the class x, at C, may be raised with these fields -/
structure Rai (P : Program) (w : World) (K : PySem.W.Frag) (mg : Str → Option Value) (base : Heap) (x : Str) (C : Addr) (fs : List Str) : Prop where
  ex : ∃ (f : Addr) (fd : FuncData) (ps : List Str), XC K C fs ∧ XI K C f ∧ FnG P w K mg base 1 f fd ps (spIni K fs) ∧ Binds K fd ps [] ∧ mg x = some (.ref C)
theorem Rai.of {P : Program} {w : World} {K : PySem.W.Frag} {mg : Str → Option Value} {base : Heap} {x m q : Str} {C f : Addr} {fs ps : List Str} {st : Stmt} (xc : XC K C fs ∧ XI K C f) (g : mg x = some (.ref C)) (F : ∃ fd, Fun K m q st f fd)
    (b : ∀ {fd}, Fun K m q st f fd → Binds K fd ps []) (h : ∀ {fd}, Fun K m q st f fd → FnG P w K mg base 1 f fd ps (spIni K fs)) : Rai P w K mg base x C fs :=
  let ⟨fd, z⟩ := F; ⟨f, fd, ps, xc.1, xc.2, h z, b z, g⟩
section
variable {X : Cx} {x : Str} {C : Addr} {fs : List Str} {W : WX} {e : Expr} {es : List Expr} {ta : TA} {p pos pos2 : Pos}
theorem pmk_G (R : Rai X.prog X.w X.K X.mg X.base x C fs) (hr : RG 2 X.A) (tk : Takes X W) (ha : PA X (e :: es) ta) (hg : Gl X x := by rfl)
    (hdb : (x == ("__debug__" : Str)) = false := by decide) (he : starEach (e :: es) X.env = (false, eval e X.env) :: starEach es X.env := by rfl) (hpl : (backTo pos (starEach es X.env)).any (·.1) = false := by rfl) :
    PMk X (.Call (.Name x p) (e :: es) [] pos) (fun σ H Q => ta σ H fun vs H1 => vs.length = fs.length ∧ vs.length ≤ 10 ∧ ∀ d, H1 d = none → Q (.ref C) (some d) (upd H1 d (.xd (fs.zip vs).reverse))) := by
  intro pins s σ H Q I h
  obtain ⟨fI, fd, ps, xc, xi, F1, hb, hm⟩ := R.ex
  obtain ⟨nm, q, N, bs, bm, sn, sub, ab, col, dd, k0, k1, k2, k3, k5, hC, hbm⟩ := xc.o.cls
  refine wpAny_Call_Name_kw (ld_glob I hg hm ?_ hdb)
  refine PySem.W.callWith_K (h₀ := X.base) I.ok.mod.kin xc.o.kC (thn (ha.run pos pins s σ H _ I h) fun us s1 ⟨vs, H1, I1, r1, hl1, hl2, q1⟩ => ⟨I1.kIn, ?_⟩) he hpl
  show wpAny _ _ (call (.ref C) us) _ _ _
  obtain ⟨hp, g, dr, tk', os⟩ := s1
  have hsz : hp.objs.size ≤ hp.objs.size + 1 := Nat.le_succ _
  have hn : H1 (hp.objs.size + 1) = none := I1.hok.fresh hsz
  have hq : spIni X.K fs (.ref (hp.objs.size + 1) :: vs) (upd H1 (hp.objs.size + 1) (exo (hp.objs.size + 1) C none))
      (fun v H2 => v = .non ∧ ∃ (d : Addr) (fs' : List (Str × V)), H2 (hp.objs.size + 1) = some (exo (hp.objs.size + 1) C (some d)) ∧ H2 d = some (exd d fs') ∧ H1 d = none ∧ Q (.ref C) (some d) (upd (del H2 (hp.objs.size + 1)) d (.xd fs'))) (fun _ _ _ => False) := by
    refine ⟨_, C, vs, rfl, hl1, xc, upd_same, fun d H' hd hda ea ed oth => ⟨rfl, d, _, ea, ed, (upd_ne hda).symm.trans hd, ?_⟩⟩
    have hd1 : H1 d = none := (upd_ne hda).symm.trans hd
    have eH : upd (del H' (hp.objs.size + 1)) d (.xd (fs.zip vs).reverse) = upd H1 d (.xd (fs.zip vs).reverse) := by
      funext b
      by_cases hbd : b = d
      · rw [hbd, upd_same, upd_same]
      · rw [upd_ne hbd, upd_ne hbd]
        by_cases hba : b = hp.objs.size + 1
        · rw [hba, del_same, hn]
        · rw [del_ne hba, oth b hba hbd, upd_ne hba]
    rw [eH]
    exact q1 d hd1
  have kk : ∀ b o, hp.get? b = some o → ((hp.push (PySem.W.kdv_tup us)).push (PySem.HandSPX.excO C hp.objs.size)).get? b = some o := fun b o e => Heap.get?_push_of_some _ (Heap.get?_push_of_some _ e)
  have hget : ((hp.push (PySem.W.kdv_tup us)).push (PySem.HandSPX.excO C hp.objs.size)).get? (hp.objs.size + 1) = some (PySem.HandSPX.excO C hp.objs.size) := by heap_get
  have I2 : Inv X pins σ (upd H1 (hp.objs.size + 1) (exo (hp.objs.size + 1) C none)) ⟨(hp.push (PySem.W.kdv_tup us)).push (PySem.HandSPX.excO C hp.objs.size), g, dr, tk', os⟩ :=
    I1.laid (t' := tk') (a := hp.objs.size + 1) (o := exo (hp.objs.size + 1) C none) (h' := (hp.push (PySem.W.kdv_tup us)).push (PySem.HandSPX.excO C hp.objs.size)) kk hsz (exo_ok hget)
  have r2 : Vals (V.ref (hp.objs.size + 1) :: vs) (Value.ref (hp.objs.size + 1) :: us) := .cons rfl r1
  have hl : (Value.ref (hp.objs.size + 1) :: us).length = ps.length := by
    have e := r2.length
    rw [F1.nargs _ _ _ _ hq] at e
    exact e.symm
  have hus : us.length ≤ sizeLine := by
    rw [← Paired.length r1, sizeLine_eq]
    omega
  have b := hb _ (Value.ref (hp.objs.size + 1) :: us) I2.kIn (by simpa using hl)
  rw [List.append_nil] at b
  refine wpAny_call (PySem.HandSPX.call_own F.excBase_ValueError (fun Y => PySem.HandSPX.refsVE_contains Y bm hbm) (I1.kIn _ _ hC) (PySem.W.looks_findIn I1.kIn xi.i) (fun self => PySem.W.bind_fn I1.kIn self xi.t) hus
    (codeAny_mono (F1.goes _ X.stack _ _ ⟨Value.ref (hp.objs.size + 1) :: us, []⟩ (Value.ref (hp.objs.size + 1) :: us) _ _ _ ⟨hr.r.make C us [], make_guards.trans hr.g⟩ (I2.env0.make C us []) b r2 hq) fun r s' hq' => ?_))
  cases r with
  | error er => exact passes_call tk (fun _ _ _ _ z => False.elim z) pins σ _ _ er s' I2 hq'
  | ok fl =>
    cases fl with
    | ret u =>
      obtain ⟨v, H2, os2, bare2, un2, hok2, rv, ev, d, fs', ea, ed, hd1, q2⟩ := hq'
      subst ev
      obtain ⟨h2, g2, d2, t2, os'⟩ := s'
      exact ⟨rv, mk_end (raises_own xc.o.exC xc.o.tyC) I1 hsz kk un2 hok2 os2 bare2 ea ed hd1 q2⟩
    | next => exact False.elim hq'
    | brk => exact False.elim hq'
    | cont => exact False.elim hq'
/-- raise C(e, ..) -/
def tRais (C : Addr) (fs : List Str) (W : WX) (ta : TA) : TS := fun _ σ H => ta σ H fun vs H1 => vs.length = fs.length ∧ vs.length ≤ 10 ∧ ∀ d, H1 d = none → W (.ref C) (some d) σ (upd H1 d (.xd (fs.zip vs).reverse))
theorem ps_rais (R : Rai X.prog X.w X.K X.mg X.base x C fs) (hr : RG 2 X.A) (tk : Takes X W) (ha : PA X (e :: es) ta) (hc : X.calm = true := by rfl) (hg : Gl X x := by rfl)
    (hdb : (x == ("__debug__" : Str)) = false := by decide) (he : starEach (e :: es) X.env = (false, eval e X.env) :: starEach es X.env := by rfl) (hpl : (backTo pos (starEach es X.env)).any (·.1) = false := by rfl) :
    PS X (.Raise (some (.Call (.Name x p) (e :: es) [] pos)) none pos2) (tRais C fs W ta) := ps_raise hc tk (pmk_G R hr tk ha hg hdb he hpl)
/-- C(), without __init__ -/
theorem pmk_0 (q : X0 X.K C) (gC : X.mg x = some (.ref C)) (hg : Gl X x) (hdb : (x == ("__debug__" : Str)) = false := by decide) : PMk X (.Call (.Name x p) [] [] pos) (fun _ H Q => Q (.ref C) none H) := by
  intro pins s σ H Q I h
  refine wpAny_Call_Name_kw (ld_glob I hg gC ?_ hdb)
  refine PySem.W.callWith_K0 I.kIn q.k ?_
  show wpAny _ _ (call (.ref C) []) _ _ _
  obtain ⟨bm, N, nm, qn, bs, hdct, sn, sub, ab, col, dd, k0, k1, k2, k3, k5, mN, hC, hN, hni, T⟩ := exc_obj I.kIn q.q
  refine wpAny_call_exc_subT F.excBase_ValueError T hC hN hni (fun h' e hm => ?_) (by show 0 ≤ sizeLine; omega)
  exact mk_of I hm (raises_own q.s q.t) h (I.hok.gone hm.new)
def tRais0 (C : Addr) (W : WX) : TS := fun _ σ H => W (.ref C) none σ H
theorem ps_rais0 (q : X0 X.K C) (gC : X.mg x = some (.ref C)) (tk : Takes X W) (hc : X.calm = true := by rfl) (hg : Gl X x := by rfl) (hdb : (x == ("__debug__" : Str)) = false := by decide) :
    PS X (.Raise (some (.Call (.Name x p) [] [] pos)) none pos2) (tRais0 C W) := ps_raise hc tk (pmk_0 q gC hg hdb)
end

/-! ### caught: clauses with and without a name -/
abbrev Hd : Type := Value × Option Nat × (Addr → Value → Option Addr → TS)
/-- the slots behind a suite: the name is gone -/
def Ends.off (D : Ends) (i : Nat) : Ends := { nx := fun σ' H' => D.nx (σ'.set i none) H', rt := D.rt, bk := fun σ' H' => D.bk (σ'.set i none) H', ct := fun σ' H' => D.ct (σ'.set i none) H' }
def wMix (K : PySem.W.Frag) (Wout : WX) (D : Ends) : List Hd → WX
  | [] => Wout
  | (c, none, ts) :: r => fun cls d σ H => ∃ b, PySem.W.exmOne K cls c = some b ∧ if b = true then (∀ a, H a = none → ts a cls d D σ H) else wMix K Wout D r cls d σ H
  | (c, some i, ts) :: r => fun cls d σ H => ∃ b, PySem.W.exmOne K cls c = some b ∧ if b = true then (∀ a, H a = none → ts a cls d (Ends.off D i) (σ.set i (some (.ref a))) H) else wMix K Wout D r cls d σ H
inductive MixOk (X : Cx) : List ExceptHandler → List Hd → Prop
  | nil : MixOk X [] []
  | bare {x : Str} {c : Value} {ts : Addr → Value → Option Addr → TS} {b₀ : Stmt} {suite : List Stmt} {np pos' : Pos} {hds : List ExceptHandler} {l : List Hd} (hc : Names X x c)
      (hsu : ∀ (a : Addr) (oe : Obj) (cls : Value) (d : Option Addr) (pn : List (Addr × Obj)), Zc cls d oe → (∃ vs, oe.data = .fields vs) → PSs (X.suite a ((a, oe) :: pn)) (b₀ :: suite) (ts a cls d)) (r : MixOk X hds l) :
      MixOk X (.ExceptHandler (some (.Name x np)) none (b₀ :: suite) pos' :: hds) ((c, none, ts) :: l)
  | as {x n : Str} {c : Value} {i : Nat} {ts : Addr → Value → Option Addr → TS} {b₀ : Stmt} {suite : List Stmt} {np pos' : Pos} {hds : List ExceptHandler} {l : List Hd} (hc : Names X x c) (hi : X.N[i]? = some n) (hln : X.env.kindOf n = some .local)
      (hsu : ∀ (a : Addr) (oe : Obj) (cls : Value) (d : Option Addr) (pn : List (Addr × Obj)), Zc cls d oe → (∃ vs, oe.data = .fields vs) → PSs (X.suite a ((a, oe) :: pn)) (b₀ :: suite) (ts a cls d)) (r : MixOk X hds l) :
      MixOk X (.ExceptHandler (some (.Name x np)) (some n) (b₀ :: suite) pos' :: hds) ((c, some i, ts) :: l)
section
variable {X : Cx} {body : List Stmt} {h₀ : ExceptHandler} {hds : List ExceptHandler} {l : List Hd} {pos : Pos} {tb : WX → TS} {Wout : WX}
def tTry (K : PySem.W.Frag) (Wout : WX) (l : List Hd) (tb : WX → TS) : TS := fun D σ H => tb (wMix K Wout D l) D σ H
theorem ps_mix (hN : X.N.Nodup) (tk : Takes X Wout)
    (hb : ∀ (W : WX) (pn : List (Addr × Obj)) (xe : Value → Shared → Prop), Takes (X.tr pn xe) W → PassesOwn (model X.prog X.w) X.A X.env xe → PSs (X.tr pn xe) body (tb W))
    (hh : MixOk X (h₀ :: hds) l) (hs : X.stack = X.env :: X.outer := by rfl) (hf : X.env.frame = some X.env.locals := by rfl) : PS X (.Try body (h₀ :: hds) [] [] pos) (tTry X.K Wout l tb) := by
  refine ⟨fun pins s σ H D I h => ?_⟩
  have ok := I.ok
  have hfr : X.A.frames = some (X.env :: X.outer) := by rw [ok.frames, hs]
  refine wpAny_Try_except ?_
  refine wpAny_mono ((hb (wMix X.K Wout D l) (X.pn ++ pins) (fun e s₁ => wpAny (model X.prog X.w) X.A (noteFrame e X.env) (fun _ s₂ => wpAny (model X.prog X.w) X.A (setFlight e none) (fun _ s₃ =>
    wpAny (model X.prog X.w) X.A (handleBy e X.env (h₀ :: hds)) (SP X pins D) X.xe s₃) X.xe s₂) X.xe s₁) (fun u s' xx => ?_) PassesOwn.looking).run [] s σ H D (I.toTry _) h) (fun f s1 hsp => ?_) (fun e s1 he => he)
  · obtain ⟨a, B, sI, pins', σ', H', cls, d, rfl, J', nb, up, sky, na, os, ag, w⟩ := xx
    have J : Inv X pins σ' H' sI := J'.ofTry ok
    have sky' : Sky B (X.env :: X.outer) a (Zc cls d) X.env.locals s'.heap := by rw [← hs]; exact sky
    show wpAny (model X.prog X.w) X.A (noteFrame (.ref a) X.env) _ _ _
    refine Sky.land Zc.steady hfr hf sky' fun h3 fl3 up3 => ?_
    have J3 : Inv X pins σ' H' { s' with heap := h3 } := J.landed nb fl3.1 (up.trans up3) os ag
    obtain ⟨oe3, vs3, he3, hz3, hd3⟩ := fl3.there
    have notFr : ∀ {h : Heap} {o : Obj} {vs : Array Value}, h.FunFrames B (X.env :: X.outer) → h.get? a = some o → o.data = .fields vs → a ∉ frs (X.env :: X.outer) := fun {h o vs} ff e dd hm => by
      obtain ⟨_, o', e', hnf⟩ := ff.mem hm
      rw [e] at e'; cases e'
      exact hnf _ dd
    have nfr := notFr fl3.2.2.1 he3 hd3
    have nL : a ≠ X.env.locals := fun z => nfr (List.mem_filterMap.mpr ⟨X.env, List.mem_cons_self, by rw [hf, z]⟩)
    have nF : a ∉ X.fs := fun hm => by
      obtain ⟨e, he, q⟩ := List.mem_filterMap.mp hm
      exact nfr (List.mem_filterMap.mpr ⟨e, List.mem_cons_of_mem _ he, q⟩)
    have S3 := J3.suite he3 hd3 na nL nF
    have LT : PySem.W.Looks (model X.prog X.w) h3 (typeOf (.ref a)) cls := fun A Q E s k q => wpAny_typeOf_ref (k _ _ he3) (by rw [hz3.1]; exact q)
    have test : ∀ {x : Str} {c : Value} {np : Pos} {Q : Value → Shared → Prop} {E : Value → Shared → Prop}, Names X x c → Q c { s' with heap := h3 } → wpAny (model X.prog X.w) (X.A.mark (some (.ref a))) (eval (.Name x np) X.env) Q E { s' with heap := h3 } := fun {x c np Q E} hc q => by
      obtain ⟨hg, hdbg, hm | ⟨hm, hv, hnn⟩⟩ := hc
      · exact ld_glob (X := X.suite a ((a, oe3) :: (X.pn ++ pins))) S3 hg hm q hdbg
      · exact ld_blt (X := X.suite a ((a, oe3) :: (X.pn ++ pins))) S3 hg hm hv q hnn hdbg
    have go : ∀ {hds' : List ExceptHandler} {l' : List Hd}, MixOk X hds' l' → wMix X.K Wout D l' cls d σ' H' →
        wpAny (model X.prog X.w) X.A (handleBy (.ref a) X.env hds') (SP X pins D) X.xe { s' with heap := h3 } := by
      intro hds' l' hk
      induction hk with
      | nil =>
        intro w
        refine wpAny_handleBy_nil ?_
        obtain ⟨k1, k2, k3, oe, vs, T, oT, ts', he, hz, hd, h1, hr⟩ := id fl3
        unfold PySem.passOn
        refine wpAny_bind (wpAny_field he hd h1 ?_)
        rw [if_neg (show ¬ ((Value.ref T == Value.none) = true) from by simp)]
        have fin : wpAny (model X.prog X.w) X.A (setFlight (.ref a) X.env.frame) (fun _ s4 => wpAny (model X.prog X.w) X.A (throw (.ref a) : Sem Flow) (SP X pins D) X.xe s4) X.xe { s' with heap := h3 } := by
          rw [hf]
          refine HandSPX.setFlight_upZ fl3 fun h4 hh4 up4 => wpAny_throw (tk _ _ ?_)
          exact ⟨a, B, sI, pins, σ', H', cls, d, rfl, J, nb, (up.trans up3).trans up4, .inr (.inr (by rw [hs]; exact hh4)), na, os, ag, w⟩
        first
          | exact wpAny_bind (wpAny_pure (wpAny_bind fin))
          | exact wpAny_bind fin
      | @bare x c ts b₀ suite np pos' hds2 l2 hc hsu r ih =>
        intro w
        obtain ⟨b, hb1, hw⟩ := w
        refine wpAny_handleBy_cons (codeAny_handlers_test ?_) (by intro q; cases q)
        have LM := PySem.W.exm_one (M := model X.prog X.w) (J3.kIn) LT hb1
        refine test hc (LM.here ?_)
        cases b with
        | true =>
          refine codeAny_handlers_suite ?_
          refine HandSPX.lands_againZ fl3 fun h4 fl4 up4 => ?_
          have J4 : Inv X pins σ' H' { s' with heap := h4 } := J.landed nb fl4.1 ((up.trans up3).trans up4) os ag
          obtain ⟨oe4, vs4, he4, hz4, hd4⟩ := fl4.there
          have S4 := J4.suite he4 hd4 na nL nF
          refine wpAny_mono ((hsu a oe4 cls d (X.pn ++ pins) hz4 ⟨_, hd4⟩).run [] _ _ H' _ S4 (hw a na)) (fun f s6 hsp => ?_) (fun _ _ z => False.elim z)
          cases f with
          | next =>
            obtain ⟨σ6, H6, S6, q6⟩ := hsp
            exact ⟨_, _, S6.unsuite ok, q6⟩
          | brk =>
            obtain ⟨σ6, H6, S6, q6⟩ := hsp
            exact ⟨_, _, S6.unsuite ok, q6⟩
          | cont =>
            obtain ⟨σ6, H6, S6, q6⟩ := hsp
            exact ⟨_, _, S6.unsuite ok, q6⟩
          | ret u =>
            obtain ⟨v6, σ6, H6, S6, r6, q6⟩ := hsp
            exact ⟨_, _, _, S6.unsuite ok, r6, q6⟩
        | false =>
          show wpAny _ X.A (handleBy (.ref a) X.env hds2) _ _ _
          exact ih hw
      | @as x n c i ts b₀ suite np pos' hds2 l2 hc hi hln hsu r ih =>
        intro w
        obtain ⟨b, hb1, hw⟩ := w
        have hloc : Loc X.env.scope n := .inl hln
        refine wpAny_handleBy_cons (codeAny_handlers_test ?_) (by intro q; cases q)
        have LM := PySem.W.exm_one (M := model X.prog X.w) (J3.kIn) LT hb1
        refine test hc (LM.here ?_)
        cases b with
        | true =>
          refine codeAny_handlers_suite_as ?_
          refine HandSPX.lands_againZ fl3 fun h4 fl4 up4 => ?_
          have J4 : Inv X pins σ' H' { s' with heap := h4 } := J.landed nb fl4.1 ((up.trans up3).trans up4) os ag
          obtain ⟨oe4, vs4, he4, hz4, hd4⟩ := fl4.there
          have S4 := J4.suite he4 hd4 na nL nF
          refine store_ok (X := X.suite a ((a, oe4) :: (X.pn ++ pins))) (v := .ref a) S4 hN hi hloc rfl (fun s5 S5 => ?_) (.inr hln)
          refine wpAny_mono ((hsu a oe4 cls d (X.pn ++ pins) hz4 ⟨_, hd4⟩).run [] s5 _ H' _ S5 (hw a na)) (fun f s6 hsp => ?_) (fun _ _ z => False.elim z)
          have end_ : ∀ {σ6 : St} {H6 : Hp} {Q : Shared → Prop}, Inv (X.suite a ((a, oe4) :: (X.pn ++ pins))) [] σ6 H6 s6 → (∀ s7, Inv X pins (σ6.set i none) H6 s7 → Q s7) →
              wpAny (model X.prog X.w) X.A (do bindName X.env n .none; unbindBehindTheSuite X.env n pos') (fun _ s7 => Q s7) X.xe s6 := fun {σ6 H6 Q} S6 hq => gone_ok (S6.unsuite ok) hN hi hln hq
          cases f with
          | next =>
            obtain ⟨σ6, H6, S6, q6⟩ := hsp
            exact end_ S6 fun s7 J7 => ⟨_, _, J7, q6⟩
          | brk =>
            obtain ⟨σ6, H6, S6, q6⟩ := hsp
            exact end_ S6 fun s7 J7 => ⟨_, _, J7, q6⟩
          | cont =>
            obtain ⟨σ6, H6, S6, q6⟩ := hsp
            exact end_ S6 fun s7 J7 => ⟨_, _, J7, q6⟩
          | ret u =>
            obtain ⟨v6, σ6, H6, S6, r6, q6⟩ := hsp
            exact end_ S6 fun s7 J7 => ⟨_, _, _, J7, r6, q6⟩
        | false =>
          show wpAny _ X.A (handleBy (.ref a) X.env hds2) _ _ _
          exact ih hw
    exact go hh w
  · cases f with
    | next =>
      obtain ⟨σ', H', J', q⟩ := hsp
      exact wpAny_execs_nil ⟨σ', H', J'.ofTry ok, q⟩
    | brk =>
      obtain ⟨σ', H', J', q⟩ := hsp
      exact ⟨σ', H', J'.ofTry ok, q⟩
    | cont =>
      obtain ⟨σ', H', J', q⟩ := hsp
      exact ⟨σ', H', J'.ofTry ok, q⟩
    | ret u =>
      obtain ⟨v, σ', H', J', r, q⟩ := hsp
      exact ⟨v, σ', H', J'.ofTry ok, r, q⟩
end

/-! ### asked in a suite -/
/-- isinstance(e, c) -/
def rIsX (K : PySem.W.Frag) (a : Addr) (cls : Value) (d : Option Addr) : List V → Hp → VK → Prop := fun xs H Q => ∃ (D : Addr) (c : V) (cv : Value) (b : Bool), xs = [.ref a, c] ∧ cls = .ref D ∧ ExcC K D ∧ (∀ u, RelV c u → u = cv) ∧ PySem.W.kitOne K (.ref D) cv = some b ∧
  (∀ dd, d = some dd → ∃ fs, H dd = some (.xd fs)) ∧ Q (.bl b) H
theorem call_isX {X : Cx} {a : Addr} {oe : Obj} {cls : Value} {d : Option Addr} {pn : List (Addr × Obj)} (hz : Zc cls d oe) (hf : ∃ vs, oe.data = .fields vs) : CallR (X.suite a ((a, oe) :: pn)) (.builtin "isinstance") (rIsX X.K a cls d) := by
  intro pins s σ H xs us Q I r h
  obtain ⟨D, c, cv, b, rfl, rfl, C, hcv, e, hdd, q⟩ := h
  cases r with
  | cons rx rr =>
    cases rr with
    | cons rt rr =>
      cases rr
      cases rx
      have ec := hcv _ rt
      subst ec
      obtain ⟨hget, _⟩ := I.pin (a, oe) (List.mem_append.mpr (.inl List.mem_cons_self))
      obtain ⟨vs, hv⟩ := hf
      have hcl : (PySem.W.clsIn X.K D).isSome = true := by
        have h := C.hd
        unfold PySem.W.hasDictIn at h
        cases q : PySem.W.clsIn X.K D with
        | some _ => rfl
        | none => rw [q] at h; cases h
      have go : ∀ {od : Option Obj}, PySem.W.InstAt s.heap a oe D od → _ := fun {od} J =>
        PySem.W.kia_one (prog := X.prog) (w := X.w) (A := (X.suite a ((a, oe) :: pn)).A) (E := (X.suite a ((a, oe) :: pn)).xe) (Q := EP (X.suite a ((a, oe) :: pn)) pins σ Q) (PySem.W.kitx_exc (od := od) hcl C.hg C.hk C.hs C.ha C.hn C.ht C.hm) I.kIn J e (fun z => nomatch z) fun tk => ⟨.bl b, H, I.kept (t' := tk) fun _ _ z => z, rfl, q⟩
      cases d with
      | none => exact go (od := none) ⟨hget, hz.1, by unfold PySem.W.notCls; rw [hv] <;> rfl, by rw [hz.2]; trivial⟩
      | some dd =>
        obtain ⟨fs, ed⟩ := hdd dd rfl
        have hx : ObjOk X.prog X.w H s.heap dd (.xd fs) := I.hok dd _ ed
        obtain ⟨mA, ⟨od, _, _, ho, _⟩, _⟩ := hx
        exact go (od := some od) ⟨hget, hz.1, by unfold PySem.W.notCls; rw [hv] <;> rfl, by rw [hz.2]; exact ho⟩
/-- e.f -/
def tXg (K : PySem.W.Frag) (a : Addr) (cls : Value) (d : Option Addr) (f : Str) (te : TE) : TE := fun σ H Q => te σ H fun x H1 => x = .ref a ∧ ∃ (C dd : Addr) (fs : List Str) (kvs : List (Str × V)) (v : V), cls = .ref C ∧ XC K C fs ∧ f ∈ fs ∧ d = some dd ∧ H1 dd = some (.xd kvs) ∧ kvs.lookup f = some v ∧ Q v H1
theorem pe_xg {X : Cx} {a : Addr} {oe : Obj} {cls : Value} {d : Option Addr} {pn : List (Addr × Obj)} {e : Expr} {te : TE} {pos : Pos} {n : Str}
    (hz : Zc cls d oe) (hf : ∃ vs, oe.data = .fields vs) (he : PE (X.suite a ((a, oe) :: pn)) e te) (hb : attributeBase e n X.env (eval e X.env) = eval e X.env := by rfl) :
    PE (X.suite a ((a, oe) :: pn)) (.Attribute e n pos) (tXg X.K a cls d n te) := by
  refine ⟨fun pins s σ H Q I h => ?_⟩
  refine attr_of hb (thn (he.run pins s σ H _ I h) fun u s1 hh => ?_)
  obtain ⟨x, H1, I1, rx, ex, C, dd, fs, kvs, v, ec, xc, hm, ed, ea, l, q⟩ := hh
  subst ex
  obtain rfl : u = Value.ref a := rx
  subst ec
  subst ed
  obtain ⟨ha, _⟩ := I1.pin (a, oe) (List.mem_append_left _ List.mem_cons_self)
  obtain ⟨vs, hd⟩ := hf
  have hx : ObjOk X.prog X.w H1 s1.heap dd (.xd kvs) := I1.hok dd _ ea
  obtain ⟨mA, hns, hr⟩ := hx
  obtain ⟨od, ho, hl⟩ := lookIn_ns hns
  obtain ⟨u, hu, ru⟩ := RelO.some_of (v := v) (o := mA n) (by rw [← l]; exact hr n)
  have J : PySem.W.InstAt s1.heap a oe C (some od) := ⟨ha, hz.1, by unfold PySem.W.notCls; rw [hd] <;> rfl, by rw [hz.2]; exact ho⟩
  exact HandSPX.exc_get I1.kIn J xc.x.ga xc.x.gg xc.x.exC (PySem.W.findObj_own xc.x.hdC (xc.no n hm) rfl (by rw [hl, hu])) (handed_of ru) ⟨v, H1, I1.tok _, ru, q⟩
/-- what leaves a def -/
theorem tkE {P : Program} {w : World} {K : PySem.W.Frag} {mg : Str → Option Value} {base : Heap} {N : List Str} {qual : Str} {sc : Scope} {f : Addr} {cdv : Value} {A : Around} {outer : List Env} {s : Shared} {H : Hp} {E : XK} :
    Takes (cxOf (L2.CX P w) P w K mg base N qual sc f cdv A outer s H E) (fun cls d _ H => E cls d H) := takes_of rfl rfl rfl rfl
/-! ### the Hook: the kit's facts, one Bool more, and the statics among what is read -/
/-- what is reached, by a mask of what was met -/
def newY : List Addr → Nat → List Addr → Nat × List Addr
  | [], m, acc => (m, acc)
  | a :: r, m, acc => bif ((m >>> a) % 2 == 1) then newY r m acc else newY r (m ||| (1 <<< a)) (a :: acc)
def asY (g : Addr → Option Obj) : Nat → List Addr → List Addr → Nat → List Addr
  | 0, all, _, _ => all
  | n + 1, all, fr, m => match newY (fr.flatMap fun a => match g a with
      | some o => He.refsD o
      | none => []) m [] with
    | (m2, new) => asY g n (new ++ all) new m2
def frY (g : Addr → Option Obj) (n : Nat) : PySem.W.Frag := He.frT g (cStatics :: asY g n [mainGlobals] [mainGlobals] (1 <<< mainGlobals))
def obsY (n : Nat) (fa : List He.Fa) (fn : List He.DefD) (ex : PySem.W.Frag → Bool) (g : Addr → Option Obj) : He.AlD × Bool := (He.obsD fa fn (frY g n), ex (frY g n))
def hookY (n : Nat) (fa : List He.Fa) (fn : List He.DefD) (ex : PySem.W.Frag → Bool) : PySem.W.Hook where
  α := He.AlD × Bool
  obs := fun s => obsY n fa fn ex s.heap.get?
  val := fun _ => (He.valD fn, true)
  says := fun _ h => ∃ K : PySem.W.Frag, K.In h ∧ He.SaysD fa fn K ∧ ex K = true
  of := fun _ _ e => ⟨_, He.frT_in, congrArg Prod.fst e, congrArg Prod.snd e⟩
  keeps := fun _ _ _ ⟨K, hK, c⟩ k => ⟨K, PySem.W.Frag.In.keeps hK k, c⟩
theorem obsY_eq {n : Nat} {fa : List He.Fa} {fn : List He.DefD} {ex : PySem.W.Frag → Bool} {g : Addr → Option Obj} {s : Shared} (h : ∀ a, g a = s.heap.get? a) : obsY n fa fn ex g = (hookY n fa fn ex).obs s := by
  have e : g = s.heap.get? := funext h
  rw [e] <;> rfl
end FG

/-! GHo: C.m(self, ..) of an own class; d.pop(t) of a dict with tuple keys; d.values() of such a (locked) dict. Own layer over HandS. -/
namespace FG
open PySem PySem.Spec L2
open PyProof.Rows hiding St

/-! ### C.m(e, ..) -/
/-- what the written part says: C.m is the def at f -/
structure UnbK (K : PySem.W.Frag) (C : Addr) (m : Str) (f : Addr) : Prop where
  r : PySem.W.readsIn K C (.type "type") = true
  e : PySem.W.findCls K (.ref C) (.type "type") m = some (.val (.ref f))
  t : PySem.W.typeIn K (.ref C) = some (.type "type")
/-- what isinstance asks of an own class's instances -/
structure TyK (K : PySem.W.Frag) (D : Addr) : Prop where
  ha : PySem.W.findIn K (.ref D) "__class__" = some (some (.builtin "object.__class__"))
  hn : PySem.W.specialIn K (.builtin "object.__class__") "__get__" = some (some (.builtin "getset_descriptor.__get__"))
  htk : PySem.W.takesIn K (.builtin "object.__class__") = some true
  hm : PySem.W.mroIn K D (.type "object") = some true
def tyB (K : PySem.W.Frag) (D : Addr) : Bool := decide (PySem.W.findIn K (.ref D) "__class__" = some (some (.builtin "object.__class__"))) && (decide (PySem.W.specialIn K (.builtin "object.__class__") "__get__" = some (some (.builtin "getset_descriptor.__get__"))) &&
  (decide (PySem.W.takesIn K (.builtin "object.__class__") = some true) && decide (PySem.W.mroIn K D (.type "object") = some true)))
theorem tyB_ok {K : PySem.W.Frag} {D : Addr} (h : tyB K D = true) : TyK K D := by
  unfold tyB at h
  obtain ⟨h1, h⟩ := ba2 h
  obtain ⟨h2, h⟩ := ba2 h
  obtain ⟨h3, h4⟩ := ba2 h
  exact ⟨of_decide_eq_true h1, of_decide_eq_true h2, of_decide_eq_true h3, of_decide_eq_true h4⟩
theorem TyK.ins {K : PySem.W.Frag} {D a dx : Addr} {fs : List (Str × V)} {H : Hp} (t : TyK K D) (cl : Cls K D) (e : H a = some (.ins D dx fs)) : TyX K H (.ref a) (.ref D) := .base (.ins e cl t.ha t.hn t.htk t.hm)
def unbB (K : PySem.W.Frag) (C : Addr) (m : Str) (f : Addr) : Bool := PySem.W.readsIn K C (.type "type") && ((match PySem.W.findCls K (.ref C) (.type "type") m with
  | some (.val v) => decide (v = .ref f)
  | _ => false) && decide (PySem.W.typeIn K (.ref C) = some (.type "type")))
theorem unbB_ok {K : PySem.W.Frag} {C f : Addr} {m : Str} (h : unbB K C m f = true) : UnbK K C m f := by
  unfold unbB at h
  obtain ⟨h1, h⟩ := ba2 h
  obtain ⟨h2, h3⟩ := ba2 h
  refine ⟨h1, ?_, of_decide_eq_true h3⟩
  split at h2
  · rename_i v e
    rw [e, of_decide_eq_true h2]
  · cases h2
theorem getm_cls {prog : Program} {w : World} {A : Around} {E : Value → Shared → Prop} {s : Shared} {K : PySem.W.Frag} {C f : Addr} {m : Str} {pl : Sem Bool} {Q : Value × List Value → Shared → Prop} (X : K.In s.heap) (t : UnbK K C m f)
    (h : Q (.ref f, []) { s with toks := s.toks + 1 }) : wpAny (model prog w) A (getMethod (.ref C) m pl) Q E s := by
  have L0 : PySem.W.Looks (model prog w) s.heap (typeOf (.ref C)) (.type "type") := PySem.W.looks_typeIn X t.t
  have hg : PySem.W.findIn K (.type "type") "__getattribute__" = some (some (.builtin "type.__getattribute__")) := by
    have := t.r
    simp only [PySem.W.readsIn, Bool.and_eq_true, beq_iff_eq] at this
    exact this.1.1.2
  unfold getMethod specialOf
  refine wpAny_bind (wpAny_bind (L0.here ((PySem.W.looks_findIn X hg).here ?_)))
  dsimp only
  rw [if_pos PySem.W.canon_tga]
  refine wpAny_bind (wpAny_mono (Q := fun v => Q (v, [])) (E := E) ?_ (fun _ _ z => wpAny_pure z) fun _ _ z => z)
  exact PySem.W.cls_value X t.r t.e rfl h
/-- C.m of the module keeps sp -/
structure Unb (P : Program) (w : World) (K : PySem.W.Frag) (mg : Str → Option Value) (base : Heap) (k : Nat) (x m : Str) (sp : Sp) : Prop where
  ex : ∃ (C f : Addr) (fd : FuncData) (ps : List Str), UnbK K C m f ∧ FnG P w K mg base k f fd ps sp ∧ Binds K fd ps [] ∧ mg x = some (.ref C) ∧ PySem.W.keepIn K (.ref f) = true
theorem Unb.of {P : Program} {w : World} {K : PySem.W.Frag} {mg : Str → Option Value} {base : Heap} {k : Nat} {x m n q : Str} {C f : Addr} {ps : List Str} {st : Stmt} {sp : Sp} (u : UnbK K C m f) (g : mg x = some (.ref C)) (F : ∃ fd, Fun K n q st f fd)
    (b : ∀ {fd}, Fun K n q st f fd → Binds K fd ps []) (h : ∀ {fd}, Fun K n q st f fd → FnG P w K mg base k f fd ps sp) : Unb P w K mg base k x m sp :=
  let ⟨fd, z⟩ := F; ⟨C, f, fd, ps, u, h z, b z, g, z.kp⟩
section
variable {X : Cx} {k : Nat} {sp : Sp} {W : WX} {x m : Str} {np pos apos : Pos} {e : Expr} {es : List Expr} {t : TA}
theorem gu {pl : Sem Bool} (c : Unb X.prog X.w X.K X.mg X.base k x m sp) (hr : RG k X.A) (tk : Takes X W) (ha : PA X (e :: es) t) (hg : Gl X x := by rfl) (hdb : (x == ("__debug__" : Str)) = false := by decide)
    (hst : starEach (e :: es) X.env = (false, eval e X.env) :: starEach es X.env := by rfl) (hpl : (backTo pos (starEach es X.env)).any (·.1) = false := by rfl)
    (ht : eval (.Call (.Attribute (.Name x np) m apos) (e :: es) [] pos) X.env = (do let ov ← eval (.Name x np) X.env; standAt apos.atName; let (f, first) ← holding [ov] (getMethod ov m pl); callWith pos f first (backTo pos (starEach (e :: es) X.env)) (backToKw pos (keywordEach [] X.env))) := by rfl) :
    PE X (.Call (.Attribute (.Name x np) m apos) (e :: es) [] pos) (tG sp W t) := by
  obtain ⟨C, f, fd, ps, u, F, hb, hm, hk⟩ := c.ex
  refine ⟨fun pins s σ H Q I h => PySem.W.methodCall_KW (pl := pl) (ld_glob I hg hm ?_ hdb) ht⟩
  refine getm_cls I.kIn u ?_
  have I2 : Inv X pins σ H { s with toks := s.toks + 1 } := I.tok _
  refine PySem.W.callWith_K (first := []) (h₀ := X.base) I2.ok.mod.kin hk (thn (ha.run pos pins { s with toks := s.toks + 1 } σ H _ I2 h) fun us s2 ⟨vs, H2, I3, r, q2⟩ => ⟨I3.kIn, ?_⟩) hst hpl
  exact runs F hr hb tk I3 r q2
end

/-! ### d.pop(t), t there -/
def rPopT1 : V → List V → Hp → VK → Prop := fun x xs H Q => ∃ (a : Addr) (kvs : List (List L2.Key × V)) (k : List L2.Key) (b : Addr) (v : V), x = .ref a ∧ xs = [.ref b] ∧ H a = some (.dT kvs) ∧ H b = some (.tup (k.map kV)) ∧
  valV kvs k = some v ∧ Q v (upd H a (.dT (dropK kvs k)))
theorem mt_popT1 {X : Cx} (hu : X.A.units + 1 < cLine) : MtR X "dict.pop" rPopT1 := by
  intro pins s σ H x xs v us Q I rx rxs h
  obtain ⟨a, kvs, k, b, v0, rfl, rfl, ha, hb, hv, q⟩ := h
  cases rx
  rw [Vals.ref1 rxs]
  obtain ⟨z, hd, xs', rel, dd⟩ := dt_of I.hok ha
  have hz : xs'.length ≤ sizeLine := by rw [← Paired.length rel]; exact z
  have r := rel.val k
  rw [hv] at r
  obtain ⟨p, hp, rv⟩ : ∃ p, atKey xs' k = some p ∧ RelV v0 p.2 := by
    cases ev : atKey xs' k with
    | none => rw [ev] at r; exact (show False from r).elim
    | some p => rw [ev] at r; exact ⟨p, rfl, r⟩
  refine call_pop_heap (knd := tupleKind (mixKind X.prog X.w)) (k := k) (.inl rfl) (PySem.F.args_dict_pop_2 _ _) (tupleKind_room_in1 hu) (key_of I.hok hb) hd dd hp (fun h' dd' hs => ?_) hz
  obtain ⟨o, es, ep, hq, h2, h3, h4, _, h5⟩ := dd'
  have I2 : Inv X pins σ (upd H a (.dT (dropK kvs k))) { s with heap := h', toks := s.toks + (tupleKind (mixKind X.prog X.w)).draws k } :=
    d_write I (by rw [ha]; exact True.intro) hs ⟨o, hq⟩ ⟨Nat.le_trans (dropK_le kvs k) z, hd, _, (L2.DX.KT_drop k rel).keeps (fun c ys ec => (by rw [upd_ne (ne_of ec ha (fun z => nomatch z))]; exact ec)), o, es, ep, hq, h2, h3, h4, h5⟩
  exact ⟨v0, _, I2, rv, q⟩

/-! ### for v in d.values(), d locked, its keys tuples -/
def Itvt (d : Addr) (o : Obj) (kvs : List (List L2.Key × V)) : It :=
  ⟨fun i H => H d = some (.frz o (.dT kvs)) ∧ i < kvs.length, fun i H x H' => H' = H ∧ ∃ k, kvs[i]? = some (k, x), fun i H => H d = some (.frz o (.dT kvs)) ∧ kvs.length ≤ i⟩
def iValsT (td : TE) : TI := fun σ H R => td σ H fun x H1 => ∃ d o kvs, x = .ref d ∧ H1 d = some (.frz o (.dT kvs)) ∧ R (Itvt d o kvs) H1
section
variable {X : Cx} {pins : List (Addr × Obj)} {σ : St} {H : Hp} {s : Shared} {d : Addr} {o : Obj}
theorem frzTv {kvs : List (List L2.Key × V)} (I : Inv X pins σ H s) (h : H d = some (.frz o (.dT kvs))) :
    (d == sysModules) = false ∧ s.heap.get? d = some o ∧ o.ExactDict ∧ ∃ (es : Array DictEntry) (ep : Nat), o.data = .dict es ep ∧ es.size = kvs.length ∧
      ∀ (i : Nat) (k : List L2.Key) (v : V), kvs[i]? = some (k, v) → ∃ en : DictEntry, es[i]? = some en ∧ RelV v en.val := by
  obtain ⟨hd, z, hs, xs, pr, o', es, ep, ho, hx, hdt, he, _⟩ := I.hok d _ h
  rw [hd] at ho
  cases ho
  refine ⟨hs, hd, hx, es, ep, hdt, ?_, fun i k v e => ?_⟩
  · have l1 : es.size = xs.length := size_of_entries he
    have l2 : kvs.length = xs.length := Paired.length pr
    omega
  · obtain ⟨b, hb, e1, e2, e3⟩ := paired_get pr e
    have q := entry_at he i
    rw [hb] at q
    exact ⟨_, q, e3⟩
theorem ep_eq {o : Obj} {es es' : Array DictEntry} {ep ep' : Nat} (h : o.data = .dict es ep) (h' : o.data = .dict es' ep') : es = es' ∧ ep = ep' := by
  rw [h] at h'; cases h'; exact ⟨rfl, rfl⟩
theorem turn_valsT {P : Program} {w : World} {K : PySem.W.Frag} {tg : Expr} {es : Array DictEntry} {ep : Nat} {kvs : List (List L2.Key × V)} (it : Addr) (hod : o.data = .dict es ep) : Turn P w K tg (Itvt d o kvs) [it] it (fun i h => h.get? it = some (DVw.valOb d i kvs.length ep)) where
  mem := by simp
  obj := fun i h st b hb => by
    have e : b = it := by simpa using hb
    subst e
    exact ⟨_, st, fun v z => by cases z⟩
  keep := fun i h h' st k => k it (by simp) _ st
  item := by
    intro X hP hw hK hc i pins s σ H E I hf st hg
    subst hP hw hK
    obtain ⟨hd, hi⟩ := hg
    obtain ⟨f0, f1, f2, f3, f4, f5⟩ := hf it (by simp)
    obtain ⟨hs, hgd, hx, es', ep', hdt, hsz, ent⟩ := frzTv I hd
    obtain ⟨rfl, rfl⟩ := ep_eq hod hdt
    obtain ⟨⟨k, v⟩, hkv⟩ : ∃ p, kvs[i]? = some p := ⟨kvs[i], List.getElem?_eq_getElem hi⟩
    obtain ⟨en, hen, rv⟩ := ent i k v hkv
    refine DVw.val_item st hgd hdt hsz hen fun h' st' sb => ?_
    have I1 : Inv X pins σ H { s with heap := h' } := I.turned (t' := s.toks) (fun b ob hb e => (sb.2 b hb).trans e) f0 f1 f3 f4 f5
    exact ⟨en.val, rfl, go_of (s := { s with heap := h' }) st' rfl rfl (by decide) ⟨v, H, I1, rv, ⟨rfl, k, hkv⟩, st', fun b hb => (hf b hb).1⟩⟩
  done := by
    intro X hP hw hK hc i pins s σ H E I hf st hg
    subst hP hw hK
    obtain ⟨hd, hi⟩ := hg
    obtain ⟨f0, f1, f2, f3, f4, f5⟩ := hf it (by simp)
    obtain ⟨hs, hgd, hx, es', ep', hdt, hsz, ent⟩ := frzTv I hd
    obtain ⟨rfl, rfl⟩ := ep_eq hod hdt
    exact DVw.val_end (I.ok.hd hc) st hgd hdt hsz (Array.getElem?_eq_none (by omega)) fun h' eb => ⟨rfl, I.turned (t' := s.toks) (fun b ob hb e => eb b ob hb e) f0 f1 f3 f4 f5⟩
  self := fun A i s Q E st h => wpAny_pyIter_valiter (d := d) (i := i) (n := kvs.length) (ep := ep) ⟨_, st, rfl, rfl⟩ h
theorem meetsVals {prog : Program} {w : World} {d : Addr} {es : Array DictEntry} {ep : Nat} (hd : (d == sysModules) = false) :
    MeetsIn prog w (Builtin.«dict.values» ⟨[.ref d], []⟩) (fun _ R s => DT.Raw s.heap d es ep ∧
      R (.ok (.ret (.ref s.heap.objs.size))) { s with heap := s.heap.push { cls := .type "dict_values", data := .fields #[.ref d] } }) :=
  .of_wp fun A R s ⟨hm, h⟩ => by
    show wpAny _ _ (Builtin.Dict.noArgs "values" ⟨[.ref d], []⟩ >>= _) _ _ s
    refine wpAny_bind ?_
    unfold Builtin.Dict.noArgs
    refine wpAny_bind (wpAny_notOrdered_dict hm.typeIs ?_)
    show wpAny _ _ (pure d) _ _ s
    refine wpAny_pure ?_
    show wpAny _ _ (Builtin.Dict.showsAll d >>= _) _ _ s
    unfold Builtin.Dict.showsAll
    rw [if_neg (by rw [hd]; exact Bool.false_ne_true)]
    refine wpAny_bind (wpAny_pure ?_)
    exact wpAny_bind (wpAny_newObj_type (wpAny_pure ⟨_, rfl, h⟩))
end
theorem pi_valuesT {X : Cx} {tg e : Expr} {td : TE} {apos cpos : Pos} (he : PE X e td) (hbase : attributeBase e "values" X.env (eval e X.env) = eval e X.env := by rfl) (hline : (apos.endLine == cpos.line) = true := by rfl) : PI X tg (.Call (.Attribute e "values" apos) [] [] cpos) (iValsT td) := by
  refine ⟨fun pins s σ H R I h => ?_⟩
  refine wpAny_Call_method (T := "dict") (id := "dict.values") hbase rfl hline F.plainAttrs_dict F.slot_dict_values F.type_dict_values (thn (he.run pins s σ H _ I h) fun u s1 ⟨x, H1, I1, rx, d, o, kvs, ex, hd, q⟩ => ?_)
  subst ex
  obtain rfl : u = Value.ref d := rx
  obtain ⟨hs, hgd, hx, es, ep, hdt, hsz, ent⟩ := frzTv I1 hd
  have hm : DT.Raw s1.heap d es ep := ⟨o, hgd, hx, hdt⟩
  refine ⟨hm.typeIs, (fun b e => by injection e with e; subst e; exact ⟨o, hgd, hx.2.1⟩), ?_⟩
  have I2 : Inv X pins σ H1 { s1 with heap := s1.heap.push { cls := .type "dict_values", data := .fields #[.ref d] } } := I1.kept (t' := s1.toks) fun b ob q => Heap.get?_push_of_some _ q
  have fin : wpAny (model X.prog X.w) X.A (pyIter (.ref s1.heap.objs.size)) (PIE X pins σ tg R) X.xe { s1 with heap := s1.heap.push { cls := .type "dict_values", data := .fields #[.ref d] } } := by
    refine DSub.iter_vals (a := d) (es := es) (ep := ep) (ob := o) (Heap.get?_push_size _ rfl) (Heap.get?_push_of_some _ hgd) hdt ?_
    rw [hsz]
    exact pi_one (tk := s1.toks) I2 _ (turn_valsT _ hdt) (Heap.get?_push_size _ rfl) q
  show wpAny _ _ (callWith cpos (.builtin "dict.values") [.ref d] [] []) _ X.xe s1
  exact method_meetsIn F.slot_dict_values F.entry_dict_values rfl (PySem.evalArgs_none ⟨rfl, hm.typeIs, F.args_dict_values_1 _, _, meetsVals (es := es) (ep := ep) hs, hm, fin⟩)
theorem walk_valsT {d : Addr} {o : Obj} {kvs : List (List L2.Key × V)} : Walk (Itvt d o kvs) kvs.length (fun H => H d = some (.frz o (.dT kvs))) (fun i H x H' => H' = H ∧ ∃ k, kvs[i]? = some (k, x)) :=
  ⟨fun _ _ hi q => ⟨q, hi⟩, fun _ q => ⟨q, Nat.le_refl _⟩, fun _ _ _ _ _ _ y => y⟩
/-! ### xs[a:b:c] -/
def tSl3 (K : PySem.W.Frag) (te : TE) (tl th ts : TO) : TE := fun σ H Q => te σ H fun x H1 => tl σ H1 fun l H2 => th σ H2 fun u H3 => ts σ H3 fun c H4 => ∃ a xs, x = .ref a ∧ SqL K H4 a xs ∧ c ≠ some 0 ∧
  ∀ p ys, H4 p = none → (∀ y ∈ ys, y ∈ xs) → ys.length ≤ xs.length → Q (.ref p) (upd H4 p (.lst ys))
theorem pick_vals {xs : List V} {its : List Value} (r : Vals xs its) : ∀ idx : List Nat, ∃ ys, Vals ys (idx.filterMap (its.toArray[·]?)) ∧ (∀ y ∈ ys, y ∈ xs) := by
  intro idx
  induction idx with
  | nil => exact ⟨[], .nil, fun y h => by cases h⟩
  | cons i idx ih =>
    obtain ⟨ys, h1, h2⟩ := ih
    cases e : xs[i]? with
    | none =>
      have l1 : xs.length ≤ i := List.getElem?_eq_none_iff.mp e
      have e2 : its.toArray[i]? = none := by
        rw [List.getElem?_toArray]
        exact List.getElem?_eq_none_iff.mpr (by rw [← r.length]; exact l1)
      exact ⟨ys, by rw [List.filterMap_cons, e2]; exact h1, h2⟩
    | some x =>
      obtain ⟨b, hb, hx⟩ := paired_get r e
      have e2 : its.toArray[i]? = some b := by rw [List.getElem?_toArray]; exact hb
      refine ⟨x :: ys, by rw [List.filterMap_cons, e2]; exact .cons hx h1, fun y hy => ?_⟩
      rcases List.mem_cons.mp hy with z | z
      · subst z; exact List.mem_of_getElem? e
      · exact h2 y z
theorem pick_len {items : Array Value} {lo hi st : Option Int} : (slicePick items lo hi st).size ≤ items.size := by
  unfold slicePick
  rw [List.size_toArray]
  refine Nat.le_trans (List.length_filterMap_le _ _) ?_
  refine sliceRange_length_le _ _ _ _ (fun hp => ?_) (fun hm => ?_)
  · unfold sliceBounds at hp ⊢
    simp only at hp ⊢
    constructor
    · cases lo with
      | none => simp [hp]
      | some i => simp only [hp, if_true]; omega
    · cases hi with
      | none => simp [hp]
      | some i => simp only [hp, if_true]; omega
  · unfold sliceBounds at hm ⊢
    simp only at hm ⊢
    constructor
    · cases lo with
      | none => simp [hm]
      | some i => simp only [hm, if_false]; omega
    · cases hi with
      | none => simp [hm]
      | some i => simp only [hm, if_false]; omega
theorem pe_sl3 {X : Cx} {e : Expr} {lo hi st : Option Expr} {te : TE} {tl th ts : TO} {p3 pos : Pos} (he : PE X e te) (hl : PO X lo tl) (hh : PO X hi th) (hst : PO X st ts)
    (hsub : ∀ a b : Addr, subscripted (.Slice lo hi st p3) false (.ref a) (.ref b) = operate [.ref a, .ref b] (getItem (.ref a) (.ref b)) := by intro _ _; with_unfolding_all rfl) :
    PE X (.Subscript e (.Slice lo hi st p3) pos) (tSl3 X.K te tl th ts) := by
  refine ⟨fun pins s σ H Q I h => ?_⟩
  refine Subscript_ (thn (he.run pins s σ H _ I h) fun v s1 ⟨x, H1, I1, r1, q1⟩ => ?_)
  refine wpAny_Slice (thn (hl.run pins s1 σ H1 _ I1 q1) fun vl s2 ⟨l, H2, I2, pl, q2⟩ => ?_)
  refine thn (hh.run pins s2 σ H2 _ I2 q2) fun vu s3 ⟨u, H3, I3, pu, q3⟩ => ?_
  refine thn (hst.run pins s3 σ H3 _ I3 q3) fun vs s4 ⟨o, H4, I4, ps, q4⟩ => ?_
  obtain ⟨a, xs, ex, hx, h0, q⟩ := q4
  subst ex
  cases r1
  have I5 : Inv X pins σ H4 { s4 with heap := s4.heap.push { cls := .type "slice", data := .fields #[vl, vu, vs] } } := I4.kept (t' := s4.toks) fun b ob q => Heap.get?_push_of_some _ q
  obtain ⟨its, r, ht, hz⟩ := I5.list hx
  have hlen := r.length
  show wpAny (model X.prog X.w) X.A (subscriptTail e (.Slice lo hi st p3) (.ref a) (.ref s4.heap.objs.size)) (EP X pins σ Q) X.xe { s4 with heap := s4.heap.push { cls := .type "slice", data := .fields #[vl, vu, vs] } }
  refine tail_any (ops := [.ref a, .ref s4.heap.objs.size]) ht.isList.typeIs (PySem.slot_list_getitem.lookup) ?_ (hsub _ _)
  refine wpAny_getItem_list_slice ht.isList (Heap.IsSliceOf.new _ vl vu vs) pl pu ps h0 ?_ (by rw [List.size_toArray]; omega)
  have hp := pick_len (items := its.toArray) (lo := l) (hi := u) (st := o)
  obtain ⟨ys, hy, hm⟩ := pick_vals r (sliceRange (sliceBounds l u o its.toArray.size).1 (sliceBounds l u o its.toArray.size).2.1 (sliceBounds l u o its.toArray.size).2.2)
  have hs : slicePick its.toArray l u o = ((sliceRange (sliceBounds l u o its.toArray.size).1 (sliceBounds l u o its.toArray.size).2.1 (sliceBounds l u o its.toArray.size).2.2).filterMap (its.toArray[·]?)).toArray := rfl
  rw [hs, List.size_toArray, ← hy.length, List.size_toArray, ← hlen] at hp
  rw [hs]
  refine ⟨.ref _, _, I5.laid (t' := s4.toks) (o := .lst ys) (fun b ob q => Heap.get?_push_of_some _ q) (Nat.le_refl _) ?_, rfl, q _ ys (I5.hok.fresh (Nat.le_refl _)) hm hp⟩
  exact ⟨Nat.le_trans hp hz, _, 0, hy, Heap.get?_push_size _ rfl⟩
theorem ksl3 (K : PySem.W.Frag) {X : Cx} {e : Expr} {lo hi st : Option Expr} {te : TE} {tl th ts : TO} {p3 pos : Pos} (he : PE X e te) (hl : PO X lo tl) (hh : PO X hi th) (hst : PO X st ts) (hK : X.K = K := by rfl)
    (hsub : ∀ a b : Addr, subscripted (.Slice lo hi st p3) false (.ref a) (.ref b) = operate [.ref a, .ref b] (getItem (.ref a) (.ref b)) := by intro _ _; with_unfolding_all rfl) :
    PE X (.Subscript e (.Slice lo hi st p3) pos) (tSl3 K te tl th ts) := by subst hK; exact pe_sl3 he hl hh hst hsub
/-! ### xs != [] -/
def rNeE (K : PySem.W.Frag) : R2 := fun x y H Q => ∃ a b xs, x = .ref a ∧ y = .ref b ∧ SqL K H a xs ∧ SqL K H b [] ∧ Q (.bl (!xs.isEmpty)) H
theorem kneE {X : Cx} (K : PySem.W.Frag) (hu : X.A.units + 64 < cLine) (hK : X.K = K := by rfl) : OpR X (compareOp .NotEq) (rNeE K) := by
  subst hK
  intro pins s σ H x y v u Q I rx ry h
  obtain ⟨a, b, xs, rfl, rfl, ha, hb, q⟩ := h
  cases (show v = Value.ref a from rx)
  cases (show u = Value.ref b from ry)
  obtain ⟨us, r1, p1, _⟩ := I.list ha
  obtain ⟨ws, r2, p2, _⟩ := I.list hb
  cases r2
  cases r1 with
  | nil => exact SeqAt.RcNeAt.lists (e := fun _ => true) p1.isList p2.isList rfl (by omega) (fun j h1 _ => absurd h1 (Nat.not_lt_zero j)) _ _ _ _ ⟨.bl false, H, I, rfl, q⟩
  | cons c d => exact SeqAt.RcNeAt.lists_lengths p1.isList p2.isList (by simp) (by omega) _ _ _ _ ⟨.bl true, H, I, rfl, q⟩
end FG

/-! GHot: a def that is called, within an except suite, with what was caught. Own layer over HandS. -/
namespace FG
open PySem PySem.Spec L2
open PyProof.Rows hiding St

/-- what is wanted, by the exception's address, class and fields -/
abbrev SpX := Addr → Value → Option Addr → List V → Hp → VK → Prop
structure FnX (P : Program) (w : World) (K : PySem.W.Frag) (mg : Str → Option Value) (base : Heap) (k : Nat) (f : Addr) (fd : FuncData) (ps : List Str) (sp : SpX) : Prop where
  len : ∀ a cls d vs H Q, sp a cls d vs H Q → vs.length = ps.length
  run : ∀ (A : Around) (outer : List Env) (s : Shared) (H : Hp) (args : Args) (us : List Value) (vs : List V) (Q : VK) (p : Addr × Obj) (cls : Value) (d : Option Addr), L2H.RoomH k A → Zc cls d p.2 → (∃ z, p.2.data = .fields z) → L2H.PinOk outer H s p → Env0 P w K mg base A outer s H →
    BindsTo s fd args (ps.zip us) → Vals vs us → sp p.1 cls d vs H Q → codeAny (model P w) A (.call (.ref f) args) (CR (L2.CX P w) outer P w H s Q fun _ _ _ => False) s
section
variable {P : Program} {w : World} {K : PySem.W.Frag} {mg : Str → Option Value} {base : Heap}
/-- a def of the text, by its body -/
theorem FnX.of {x qual : Str} {st : Stmt} {f : Addr} {fd : FuncData} {N ps : List Str} {k : Nat} {sp : SpX} (F : Fun K x qual st f fd) (S : FnScope N ps (defScope st)) (hn : ∀ a cls d vs H Q, sp a cls d vs H Q → vs.length = ps.length)
    (hb : ∀ (cdv : Value) (A : Around) (outer : List Env) (s : Shared) (H : Hp) (vs : List V) (Q : VK) (p : Addr × Obj) (cls : Value) (d : Option Addr), L2H.RoomH k (A.deeper (envOfC qual (defScope st) s.heap.objs.size f cdv)) → Zc cls d p.2 → (∃ z, p.2.data = .fields z) → sp p.1 cls d vs H Q →
      ∃ t, PSs (L2H.cxH (L2.CX P w) P w K mg base N qual (defScope st) f cdv A outer s H (fun _ _ _ => False) p) (defBody st) t ∧ t { nx := fun _ H' => Q .non H', rt := Q } (start N vs) H) : FnX P w K mg base (k + 1) f fd ps sp := by
  obtain ⟨oc, od, kV, doc, pm, an, cdv, ct, osl, rfl, lk, hcd⟩ := F.ex
  refine ⟨hn, fun A outer s H ar us vs Q p cls d hg hz hf hpin env0 bnd rel hsp => ?_⟩
  have len := hn _ _ _ _ _ _ hsp
  have inK : K.In s.heap := env0.mod.kin.keeps fun b o z => (env0.bs b o z).1
  have nol : s.heap.NoLimit := env0.mod.nolimit.keeps fun b o z => (env0.bs b o z).1
  have hk : ∀ y ∈ ps.zip us, (defScope st).names.lookup y.1 = some .local ∨ ((defScope st).names.lookup y.1 = some .cell ∧ ((cellsFrom (s.heap.objs.size + 1) (defScope st).names []).lookup y.1).isSome = true) := by
    rintro ⟨n, v⟩ hy
    exact (S.par n (List.of_mem_zip hy).1).elim .inl fun q => .inr ⟨q, PySem.W.cellsFrom_some _ _ _ (.inl q)⟩
  refine codeAny_call_function hg.depth (inK _ _ lk) rfl S.co S.gen rfl (PySem.W.codeRec_of inK hcd) (bnd _ _ _ _ ?_)
  refine wpAny_newFunctionEnv_cells S.kind hk fun env ee s1 inc => ?_
  subst ee
  refine ⟨nol.keeps inc.toInCall.keep, codeAny_func ?_⟩
  obtain ⟨t, ht, hq⟩ := hb cdv A outer s H vs Q p cls d (hg.deeper _) hz hf hsp
  have I0 : Inv (L2H.cxH (L2.CX P w) P w K mg base N qual (defScope st) f cdv A outer s H (fun _ _ _ => False) p) [] (start N vs) H s1 := L2H.inv_startH S hpin env0 len rel inc
  refine wpAny_mono (ht.run [] s1 (start N vs) H _ I0 hq) (fun fl s2 hs => ?_) fun _ _ hs => hs
  have fin : ∀ {σ2 : St} {H2 : Hp} {v : V} {u : Value}, Inv (L2H.cxH (L2.CX P w) P w K mg base N qual (defScope st) f cdv A outer s H (fun _ _ _ => False) p) [] σ2 H2 s2 → RelV v u → Q v H2 → CE outer P w H s Q u s2 := by
    intro σ2 H2 v u J rv q
    exact ⟨v, H2, J.os, J.bare, J.base, J.hok, rv, q⟩
  match fl, hs with
  | .ret u, ⟨v, σ2, H2, J, rv, q⟩ => exact fin J rv q
  | .next, ⟨σ2, H2, J, q⟩ => exact fin (v := V.non) (u := Value.none) J rfl q
  | .brk, ⟨_, _, _, q⟩ => exact q.elim
  | .cont, ⟨_, _, _, q⟩ => exact q.elim
/-- the module's def x, called with what was caught, keeps sp -/
structure CalX (P : Program) (w : World) (K : PySem.W.Frag) (mg : Str → Option Value) (base : Heap) (k : Nat) (x : Str) (sp : SpX) : Prop where
  ex : ∃ (f : Addr) (fd : FuncData) (ps : List Str), FnX P w K mg base k f fd ps sp ∧ mg x = some (.ref f) ∧ PySem.W.keepIn K (.ref f) = true ∧ Binds K fd ps []
theorem CalX.of {k : Nat} {x n q : Str} {f : Addr} {ps : List Str} {st : Stmt} {sp : SpX} (g : mg x = some (.ref f)) (F : ∃ fd, Fun K n q st f fd) (b : ∀ {fd}, Fun K n q st f fd → Binds K fd ps []) (h : ∀ {fd}, Fun K n q st f fd → FnX P w K mg base k f fd ps sp) : CalX P w K mg base k x sp :=
  let ⟨fd, z⟩ := F; ⟨f, fd, ps, h z, g, z.kp, b z⟩
end
section
variable {X : Cx} {k : Nat} {sp : SpX} {x : Str} {p pos : Pos} {e : Expr} {es : List Expr} {t : TA} {a : Addr} {oe : Obj} {cls : Value} {d : Option Addr} {pn : List (Addr × Obj)}
theorem gx (c : CalX X.prog X.w X.K X.mg X.base k x sp) (hr : RG k X.A) (hz : Zc cls d oe) (hf : ∃ z, oe.data = .fields z) (ha : PA (X.suite a ((a, oe) :: pn)) (e :: es) t) (hg : Gl X x := by rfl) (hdb : (x == ("__debug__" : Str)) = false := by decide)
    (he : starEach (e :: es) X.env = (false, eval e X.env) :: starEach es X.env := by rfl) (hpl : (backTo pos (starEach es X.env)).any (·.1) = false := by rfl) :
    PE (X.suite a ((a, oe) :: pn)) (.Call (.Name x p) (e :: es) [] pos) (fun σ H Q => t σ H fun vs H1 => sp a cls d vs H1 Q) := by
  obtain ⟨f, fd, ps, F, hm, hk, hb⟩ := c.ex
  refine ⟨fun pins s σ H Q I h => wpAny_Call_Name_kw (ld_glob (X := X.suite a ((a, oe) :: pn)) I hg hm ?_ hdb)⟩
  refine PySem.W.callWith_K (h₀ := X.base) I.ok.mod.kin hk (thn (ha.run pos pins s σ H _ I h) fun us s1 ⟨vs, H1, I1, r, q⟩ => ⟨I1.kIn, ?_⟩) he hpl
  have ln : us.length = ps.length := r.length.symm.trans (F.len _ _ _ _ _ _ q)
  have b := hb s1 us I1.kIn (by simpa using ln)
  rw [List.append_nil] at b
  have P1 := I1.pin (a, oe) (List.mem_append_left _ List.mem_cons_self)
  have hpin : L2H.PinOk X.stack H1 s1 (a, oe) := ⟨P1.1, P1.2.1, fun hm => (List.mem_cons.mp (I1.stkSub a hm)).elim P1.2.2.1 P1.2.2.2.1, P1.2.2.2.2⟩
  refine wpAny_call (codeAny_mono (F.run (X.A.mark (some (.ref a))) X.stack s1 H1 ⟨us, []⟩ us vs Q (a, oe) cls d ⟨hr.r.dp, hr.r.un⟩ hz hf hpin I1.env0 b r q) fun q s2 hq => ?_)
  match q, hq with
  | .error e, hq => exact passAt (X := X.suite a ((a, oe) :: pn)) takes0 σ pins H1 s1 e s2 I1 hq
  | .ok (.ret u), hq => exact I1.after hq
  | .ok .next, hq => exact hq.elim
  | .ok .brk, hq => exact hq.elim
  | .ok .cont, hq => exact hq.elim
end
/-! asked of it where it is known -/
section
variable {X : Cx} {a : Addr} {oe : Obj} {cls : Value} {d : Option Addr}
theorem call_isH (hz : Zc cls d oe) (hf : ∃ vs, oe.data = .fields vs) (hp : (a, oe) ∈ X.pn) : CallR X (.builtin "isinstance") (rIsX X.K a cls d) := by
  intro pins s σ H xs us Q I r h
  obtain ⟨D, c, cv, b, rfl, rfl, C, hcv, e, hdd, q⟩ := h
  cases r with
  | cons rx rr =>
    cases rr with
    | cons rt rr =>
      cases rr
      cases rx
      have ec := hcv _ rt
      subst ec
      obtain ⟨hget, _⟩ := I.pin (a, oe) (List.mem_append.mpr (.inl hp))
      obtain ⟨vs, hv⟩ := hf
      have hcl : (PySem.W.clsIn X.K D).isSome = true := by
        have h := C.hd
        unfold PySem.W.hasDictIn at h
        cases q : PySem.W.clsIn X.K D with
        | some _ => rfl
        | none => rw [q] at h; cases h
      have go : ∀ {od : Option Obj}, PySem.W.InstAt s.heap a oe D od → _ := fun {od} J =>
        PySem.W.kia_one (prog := X.prog) (w := X.w) (A := X.A) (E := X.xe) (Q := EP X pins σ Q) (PySem.W.kitx_exc (od := od) hcl C.hg C.hk C.hs C.ha C.hn C.ht C.hm) I.kIn J e (fun z => nomatch z) fun tk => ⟨.bl b, H, I.kept (t' := tk) fun _ _ z => z, rfl, q⟩
      cases d with
      | none => exact go (od := none) ⟨hget, hz.1, by unfold PySem.W.notCls; rw [hv] <;> rfl, by rw [hz.2]; trivial⟩
      | some dd =>
        obtain ⟨fs, ed⟩ := hdd dd rfl
        have hx : ObjOk X.prog X.w H s.heap dd (.xd fs) := I.hok dd _ ed
        obtain ⟨mA, ⟨od, _, _, ho, _⟩, _⟩ := hx
        exact go (od := some od) ⟨hget, hz.1, by unfold PySem.W.notCls; rw [hv] <;> rfl, by rw [hz.2]; exact ho⟩
theorem pe_xh {e : Expr} {te : TE} {pos : Pos} {n : Str} (hz : Zc cls d oe) (hf : ∃ vs, oe.data = .fields vs) (hp : (a, oe) ∈ X.pn) (he : PE X e te) (hb : attributeBase e n X.env (eval e X.env) = eval e X.env := by rfl) :
    PE X (.Attribute e n pos) (tXg X.K a cls d n te) := by
  refine ⟨fun pins s σ H Q I h => ?_⟩
  refine attr_of hb (thn (he.run pins s σ H _ I h) fun u s1 hh => ?_)
  obtain ⟨x, H1, I1, rx, ex, C, dd, fs, kvs, v, ec, xc, hm, ed, ea, l, q⟩ := hh
  subst ex
  obtain rfl : u = Value.ref a := rx
  subst ec
  subst ed
  obtain ⟨ha, _⟩ := I1.pin (a, oe) (List.mem_append_left _ hp)
  obtain ⟨vs, hd⟩ := hf
  have hx : ObjOk X.prog X.w H1 s1.heap dd (.xd kvs) := I1.hok dd _ ea
  obtain ⟨mA, hns, hr⟩ := hx
  obtain ⟨od, ho, hl⟩ := lookIn_ns hns
  obtain ⟨u, hu, ru⟩ := RelO.some_of (v := v) (o := mA n) (by rw [← l]; exact hr n)
  have J : PySem.W.InstAt s1.heap a oe C (some od) := ⟨ha, hz.1, by unfold PySem.W.notCls; rw [hd] <;> rfl, by rw [hz.2]; exact ho⟩
  exact HandSPX.exc_get I1.kIn J xc.x.ga xc.x.gg xc.x.exC (PySem.W.findObj_own xc.x.hdC (xc.no n hm) rfl (by rw [hl, hu])) (handed_of ru) ⟨v, H1, I1.tok _, ru, q⟩
end
theorem hotU {k : Nat} {A : Around} (h : L2H.RoomH k A) : A.units + 64 < cLine := by have := h.un; omega
/-! xs.count(True), xs all truths -/
def rCntB (K : PySem.W.Frag) : V → List V → Hp → VK → Prop := fun x xs H Q => ∃ (p : Addr) (bs : List Bool) (k : Bool), x = .ref p ∧ xs = [.bl k] ∧ SqL K H p (bs.map V.bl) ∧ Q (.int (bs.count k : Nat)) H
theorem kcntB {X : Cx} (K : PySem.W.Frag) (hu : X.A.units + 64 < cLine) (hK : X.K = K := by rfl) : MtR X "list.count" (rCntB K) := by
  subst hK
  intro pins s σ H x xs v us Q I rx rxs h
  obtain ⟨p, bs, k, rfl, rfl, hs, q⟩ := h
  cases rx
  obtain ⟨u, rfl, ru⟩ := rxs.one
  cases (show u = Value.bool k from ru)
  obtain ⟨its, rv, ⟨o, n, ho, hc, hdn, hd⟩, hlen⟩ := I.list hs
  have dp : ∀ bs : List Bool, DpAll X.K H (bs.map V.bl) (bs.map PyData.bool) := fun bs => by
    induction bs with
    | nil => exact .nil
    | cons b bs ih => exact .cons (.bl b) ih
  obtain ⟨as, rs⟩ := Dp.readsAll I _ _ its (dp bs) rv
  have e1 : ∀ bs : List Bool, (bs.map PyData.bool).countP (fun y => PyData.eqv y (.bool k)) = bs.count k := fun bs => by
    induction bs with
    | nil => rfl
    | cons b bs ih =>
      rw [List.map_cons, List.countP_cons, List.count_cons, ih]
      congr 1
  refine PySem.SeqAt.count_list_data (vs := its.toArray) (xs := bs.map PyData.bool) (d := .bool k) (bs := []) ⟨o, ho, hc, n, hd⟩ (by simpa using rs) (Reads.bool k) ?_ ?_ ?_ ?_
  · have pl : ∀ bs : List Bool, PyData.plainAll (bs.map PyData.bool) = true := fun bs => by
      induction bs with
      | nil => simp only [List.map_nil, PyData.plainAll]
      | cons b bs ih => simp only [List.map_cons, PyData.plainAll, PyData.plain, ih, Bool.and_self]
    exact pl bs
  · simp only [PyData.plain]
  · simp only [PyData.depth]; omega
  · rw [e1]
    exact ⟨.int (bs.count k : Nat), H, I.tok _, ⟨_, rfl⟩, q⟩
/-! [..], apart from the table of modules -/
def tLstN (t : TA) : TE := fun σ H Q => t σ H fun xs H1 => xs.length ≤ sizeLine ∧ ∀ p, H1 p = none → p ≠ sysModules → Q (.ref p) (upd H1 p (.lst xs))
theorem pe_lstN {X : Cx} {es : List Expr} {pos : Pos} {t : TA} (h : PA X es t) : PE X (.List es pos) (tLstN t) := by
  refine ⟨fun pins s σ H Q I hq => ?_⟩
  refine wpAny_List_spliced (thn (h.run pos pins s σ H _ I hq) fun us s1 ⟨xs, H1, I1, r, z, q⟩ => ⟨by rw [← r.length]; exact z, ?_⟩)
  have hf : H1 s1.heap.objs.size = none := I1.hok.fresh (Nat.le_refl _)
  refine ⟨.ref s1.heap.objs.size, upd H1 s1.heap.objs.size (.lst xs), I1.laid (t' := s1.toks) (fun b u e => Heap.get?_push_of_some _ e) (Nat.le_refl _) ?_, rfl, q _ hf (Nat.ne_of_gt I1.big)⟩
  exact ⟨z, us, 0, r, Heap.get?_push_size _ rfl⟩
/-! xs == ys: other lengths, or data -/
def rEqL (K : PySem.W.Frag) : R2 := fun x y H Q => (∃ a b xs ys, x = .ref a ∧ y = .ref b ∧ SqL K H a xs ∧ SqL K H b ys ∧ xs.length ≠ ys.length ∧ Q (.bl false) H) ∨ rEqD K x y H Q
theorem keqL {X : Cx} (K : PySem.W.Frag) (hu : X.A.units + 64 < cLine) (hK : X.K = K := by rfl) : OpR X (compareOp .Eq) (rEqL K) := by
  subst hK
  intro pins s σ H x y v u Q I rx ry h
  rcases h with ⟨a, b, xs, ys, rfl, rfl, ha, hb, hl, q⟩ | h
  · cases (show v = Value.ref a from rx)
    cases (show u = Value.ref b from ry)
    obtain ⟨us, r1, p1, _⟩ := I.list ha
    obtain ⟨ws, r2, p2, _⟩ := I.list hb
    exact SeqAt.RcAt.lists_lengths p1.isList p2.isList (by simpa [← r1.length, ← r2.length] using hl) (by omega) _ _ _ _ ⟨.bl false, H, I, rfl, q⟩
  · exact op_eqD hu pins s σ H x y v u Q I rx ry h
end FG

/-! GCut: ways that meet again; ladders of new objects. -/
namespace FG
open PySem PySem.Spec L2
open PyProof.Rows hiding St
section
variable {c : TT} {t u r : TS} {te : TE} {D : Ends} {σ : St} {H : Hp}
/-- if c: t else: u; then r: c's outcome first, told once -/
theorem cut_if (Post : Bool → Hp → Prop) (h : ∀ Q : Bool → Hp → Prop, (∀ b H', Post b H' → Q b H') → c σ H Q)
    (k : ∀ b H', Post b H' → if b = true then t { D with nx := r D } σ H' else u { D with nx := r D } σ H') : tSeq (tIfS c t u) r D σ H := h _ k
/-- the same, last in its block -/
theorem cut_if1 (Post : Bool → Hp → Prop) (h : ∀ Q : Bool → Hp → Prop, (∀ b H', Post b H' → Q b H') → c σ H Q)
    (k : ∀ b H', Post b H' → if b = true then t D σ H' else u D σ H') : tIfS c t u D σ H := h _ k
/-- a statement first, its end told once -/
theorem cut_seq (Post : St → Hp → Prop) (h : ∀ nx : St → Hp → Prop, (∀ σ' H', Post σ' H' → nx σ' H') → t { D with nx := nx } σ H) (k : ∀ σ' H', Post σ' H' → r D σ' H') : tSeq t r D σ H := h _ k
theorem cut_ret (Post : V → Hp → Prop) (h : ∀ Q : VK, (∀ v H', Post v H' → Q v H') → te σ H Q) (k : ∀ v H', Post v H' → D.rt v H') : tRet te D σ H := h _ k
theorem nx_next (h : D.nx σ H) : tNext D σ H := h
theorem nx_name {i : Nat} {v : V} {Q : St → Hp → Prop} (h : Q (σ.set i (some v)) H) : gName i v σ H Q := h
end
section
variable {X : Cx} {e : Expr} {ta : TA} {p pos tpos : Pos} {elts : List Expr} {kk : Nat}
theorem kiEnum (K : PySem.W.Frag) (hg : Gl X "enumerate") (hm : X.mg "enumerate" = none) (ha : PA X [e] ta) (hs : starEach [e] X.env = [(false, eval e X.env)] := by rfl) (hK : X.K = K := by rfl) :
    PI X (.Tuple elts kk tpos) (.Call (.Name "enumerate" p) [e] [] pos) (iEnum K ta) := by subst hK; exact pi_enum hg hm ha hs
def rDictP (K : PySem.W.Frag) : List V → Hp → VK → Prop := fun xs H Q => ∃ (a : Addr) (ps : List Addr) (kvs : List (L2.Key × V)), xs = [.ref a] ∧ SqL K H a (ps.map V.ref) ∧ Paired (fun p kv => SqT K H p [kV kv.1, kv.2]) ps kvs ∧ ∀ p, H p = none → Q (.ref p) (upd H p (.dK (mergeK [] kvs)))
theorem kdictP (K : PySem.W.Frag) (hc : X.calm = true) (hK : X.K = K := by rfl) : CallR X (.type "dict") (rDictP K) := by subst hK; exact call_dictP hc
end
/-! new objects, one on the other -/
def lad (H : Hp) : List (Addr × HO) → Hp
  | [] => H
  | x :: r => lad (upd H x.1 x.2) r
def ladOk (H : Hp) : List (Addr × HO) → Prop
  | [] => True
  | x :: r => H x.1 = none ∧ ladOk (upd H x.1 x.2) r
theorem lad_old : ∀ {l : List (Addr × HO)} {H : Hp} {b : Addr} {o : HO}, ladOk H l → H b = some o → lad H l b = some o
  | [], _, _, _, _, e => e
  | x :: r, H, b, o, ⟨h, hr⟩, e => lad_old (l := r) hr ((upd_ne (ne_of_none e h)).trans e)
theorem lad_at : ∀ {l : List (Addr × HO)} {H : Hp}, ladOk H l → ∀ (i : Nat) {x : Addr × HO}, l[i]? = some x → lad H l x.1 = some x.2
  | [], _, _, _, _, e => by cases e
  | x :: r, H, ⟨h, hr⟩, 0, y, e => by
    injection e with e
    subst e
    exact lad_old (l := r) hr upd_same
  | x :: r, H, ⟨h, hr⟩, i + 1, y, e => lad_at (l := r) hr i e
theorem lad_new : ∀ {l : List (Addr × HO)} {H : Hp}, ladOk H l → ∀ (i : Nat) {x : Addr × HO}, l[i]? = some x → H x.1 = none
  | [], _, _, _, _, e => by cases e
  | x :: r, H, ⟨h, hr⟩, 0, y, e => by injection e with e; subst e; exact h
  | x :: r, H, ⟨h, hr⟩, i + 1, y, e => by
    have h2 := lad_new (l := r) hr i e
    by_cases z : y.1 = x.1
    · rw [z, upd_same] at h2; cases h2
    · rwa [upd_ne z] at h2
end FG

/-! GXv: own exceptions as plain values: made, asked, their fields, their text. Own layer. -/
namespace FG
open PySem PySem.Spec L2
open PyProof.Rows hiding St
/-- an exception without fields, of these arguments -/
def ExA (C t a : Addr) : HO := .ext fun h => h.get? a = some ({ cls := .ref C, data := .fields #[.ref t, .none, .none, .none, .bool false, .none] } : Obj)
theorem exA_ok {P : Program} {w : World} {H : Hp} {h : Heap} {C t a : Addr} (e : h.get? a = some ({ cls := .ref C, data := .fields #[.ref t, .none, .none, .none, .bool false, .none] } : Obj)) : ObjOk P w H h a (ExA C t a) :=
  ⟨e, ⟨_, e⟩, fun _ _ h1 k => k _ h1⟩
theorem exA_at {P : Program} {w : World} {H : Hp} {h : Heap} {C t a : Addr} (hok : HOk P w H h) (e : H a = some (ExA C t a)) : h.get? a = some ({ cls := .ref C, data := .fields #[.ref t, .none, .none, .none, .bool false, .none] } : Obj) := by
  obtain ⟨z, _, _⟩ := hok a _ e
  exact z
/-- a is an exception of the class C, with these fields -/
def Xv (H : Hp) (a C : Addr) (kvs : List (Str × V)) : Prop := (∃ d, H a = some (exo a C (some d)) ∧ H d = some (exd d kvs)) ∨ (∃ t, H a = some (ExA C t a) ∧ kvs = [])
theorem Xv.kp {H H' : Hp} {a C : Addr} {kvs : List (Str × V)} (x : Xv H a C kvs) (k : ∀ b o, H b = some o → H' b = some o) : Xv H' a C kvs := by
  rcases x with ⟨d, e1, e2⟩ | ⟨t, e1, e2⟩
  · exact .inl ⟨d, k _ _ e1, k _ _ e2⟩
  · exact .inr ⟨t, k _ _ e1, e2⟩
theorem Xv.inst {K : PySem.W.Frag} {P : Program} {w : World} {H : Hp} {h : Heap} {a C : Addr} {kvs : List (Str × V)} (x : Xv H a C kvs) (hok : HOk P w H h) : ∃ oe od, PySem.W.InstAt h a oe C od ∧ (∃ vs, oe.data = .fields vs) := by
  rcases x with ⟨d, e1, e2⟩ | ⟨t, e1, e2⟩
  · obtain ⟨t1, ho⟩ := exo_at hok e1
    obtain ⟨mA, ⟨od, es, ep, h1, r⟩, _⟩ := exd_at hok e2
    exact ⟨_, some od, ⟨ho, rfl, rfl, h1⟩, _, rfl⟩
  · exact ⟨_, none, ⟨exA_at hok e1, rfl, rfl, trivial⟩, _, rfl⟩
section
variable {X : Cx} {x : Str} {C : Addr} {fs : List Str} {e : Expr} {es : List Expr} {ta : TA} {te : TE} {p pos : Pos}
/-- C(e, ..) as a value, C with an own __init__ -/
def tXmk (C : Addr) (fs : List Str) (ta : TA) : TE := fun σ H Q => ta σ H fun vs H1 => vs.length = fs.length ∧ vs.length ≤ 10 ∧ ∀ a H', H1 a = none → (∀ b o, H1 b = some o → H' b = some o) → (∀ b, H' b = none → H1 b = none) → Xv H' a C (fs.zip vs).reverse → Q (.ref a) H'
theorem pe_xmk (R : Rai X.prog X.w X.K X.mg X.base x C fs) (hr : RG 2 X.A) (ha : PA X (e :: es) ta) (hg : Gl X x := by rfl)
    (hdb : (x == ("__debug__" : Str)) = false := by decide) (he : starEach (e :: es) X.env = (false, eval e X.env) :: starEach es X.env := by rfl) (hpl : (backTo pos (starEach es X.env)).any (·.1) = false := by rfl) :
    PE X (.Call (.Name x p) (e :: es) [] pos) (tXmk C fs ta) := by
  refine ⟨fun pins s σ H Q I h => ?_⟩
  obtain ⟨fI, fd, ps, xc, xi, F1, hb, hm⟩ := R.ex
  obtain ⟨nm, q, N, bs, bm, sn, sub, ab, col, dd, k0, k1, k2, k3, k5, hC, hbm⟩ := xc.o.cls
  refine wpAny_Call_Name_kw (ld_glob I hg hm ?_ hdb)
  refine PySem.W.callWith_K (h₀ := X.base) I.ok.mod.kin xc.o.kC (thn (ha.run pos pins s σ H _ I h) fun us s1 ⟨vs, H1, I1, r1, hl1, hl2, q1⟩ => ⟨I1.kIn, ?_⟩) he hpl
  show wpAny _ _ (call (.ref C) us) _ _ _
  have hsz : s1.heap.objs.size ≤ s1.heap.objs.size + 1 := Nat.le_succ _
  have hn : H1 (s1.heap.objs.size + 1) = none := I1.hok.fresh hsz
  have hq : spIni X.K fs (.ref (s1.heap.objs.size + 1) :: vs) (upd H1 (s1.heap.objs.size + 1) (exo (s1.heap.objs.size + 1) C none))
      (fun v H2 => v = .non ∧ Q (.ref (s1.heap.objs.size + 1)) H2) (fun _ _ _ => False) := by
    refine ⟨_, C, vs, rfl, hl1, xc, upd_same, fun d H' hd hda ea ed oth => ⟨rfl, ?_⟩⟩
    have hd1 : H1 d = none := (upd_ne hda).symm.trans hd
    refine q1 _ H' hn (fun b o e => ?_) (fun b e => ?_) (.inl ⟨d, ea, ed⟩)
    · have h1 := ne_of_none e hn
      rw [oth b h1 (ne_of_none e hd1), upd_ne h1]; exact e
    · have h1 : b ≠ s1.heap.objs.size + 1 := fun z => by rw [z, ea] at e; cases e
      have h2 : b ≠ d := fun z => by rw [z, ed] at e; cases e
      rw [oth b h1 h2, upd_ne h1] at e; exact e
  have kk : ∀ b o, s1.heap.get? b = some o → ((s1.heap.push (PySem.W.kdv_tup us)).push (PySem.HandSPX.excO C s1.heap.objs.size)).get? b = some o := fun b o e => Heap.get?_push_of_some _ (Heap.get?_push_of_some _ e)
  have hget : ((s1.heap.push (PySem.W.kdv_tup us)).push (PySem.HandSPX.excO C s1.heap.objs.size)).get? (s1.heap.objs.size + 1) = some (PySem.HandSPX.excO C s1.heap.objs.size) := by heap_get
  have I2 := I1.laid (t' := s1.toks) (a := s1.heap.objs.size + 1) (o := exo (s1.heap.objs.size + 1) C none) (h' := (s1.heap.push (PySem.W.kdv_tup us)).push (PySem.HandSPX.excO C s1.heap.objs.size)) kk hsz (exo_ok hget)
  have r2 : Vals (V.ref (s1.heap.objs.size + 1) :: vs) (Value.ref (s1.heap.objs.size + 1) :: us) := .cons rfl r1
  have hl : (Value.ref (s1.heap.objs.size + 1) :: us).length = ps.length := by
    have e := r2.length
    rw [F1.nargs _ _ _ _ hq] at e
    exact e.symm
  have hus : us.length ≤ sizeLine := by
    rw [← Paired.length r1, sizeLine_eq]
    omega
  have b := hb _ (Value.ref (s1.heap.objs.size + 1) :: us) I2.kIn (by simpa using hl)
  rw [List.append_nil] at b
  refine wpAny_call (PySem.HandSPX.call_own F.excBase_ValueError (fun Y => PySem.HandSPX.refsVE_contains Y bm hbm) (I1.kIn _ _ hC) (PySem.W.looks_findIn I1.kIn xi.i) (fun self => PySem.W.bind_fn I1.kIn self xi.t) hus
    (codeAny_mono (F1.goes _ X.stack _ _ ⟨Value.ref (s1.heap.objs.size + 1) :: us, []⟩ (Value.ref (s1.heap.objs.size + 1) :: us) _ _ _ ⟨hr.r.make C us [], make_guards.trans hr.g⟩ (I2.env0.make C us []) b r2 hq) fun r s' hq' => ?_))
  cases r with
  | error er => exact passes_call takes0 (fun _ _ _ _ z => False.elim z) pins σ _ _ er s' I2 hq'
  | ok fl =>
    cases fl with
    | ret u =>
      obtain ⟨v, H2, I3, rv, ev, q2⟩ := I2.after hq'
      subst ev
      exact ⟨rv, .ref (s1.heap.objs.size + 1), H2, I3, rfl, q2⟩
    | next => exact False.elim hq'
    | brk => exact False.elim hq'
    | cont => exact False.elim hq'
/-- C() -/
def tXm0 (C : Addr) : TE := fun _ H Q => ∀ a t, H a = none → Q (.ref a) (upd H a (ExA C t a))
def tXm1 (C : Addr) (te : TE) : TE := fun σ H Q => te σ H fun v H1 => ∀ a t, H1 a = none → H1 t = none → t ≠ a → Q (.ref a) (upd (upd H1 t (.tup [v])) a (ExA C t a))
theorem pe_x0 (q : X0 X.K C) (gC : X.mg x = some (.ref C)) (hg : Gl X x := by rfl) (hdb : (x == ("__debug__" : Str)) = false := by decide) :
    PE X (.Call (.Name x p) [] [] pos) (tXm0 C) := by
  refine ⟨fun pins s σ H Q I h => ?_⟩
  refine wpAny_Call_Name_kw (ld_glob I hg gC ?_ hdb)
  refine PySem.W.callWith_K0 I.kIn q.k ?_
  show wpAny _ _ (call (.ref C) []) _ _ _
  obtain ⟨bm, N, nm, qn, bs, hdct, sn, sub, ab, col, dd, k0, k1, k2, k3, k5, mN, hC, hN, hni, T⟩ := exc_obj I.kIn q.q
  refine wpAny_call_exc_subT F.excBase_ValueError T hC hN hni (fun h' a hm => ?_) (by show 0 ≤ sizeLine; omega)
  have hn : H a = none := I.hok.gone hm.new
  obtain ⟨t, ht, _, _⟩ := hm.there
  exact ⟨.ref a, upd H a (ExA C t a), I.laidN hm.keeps hm.new hn (exA_ok ht), rfl, h a t hn⟩
/-- C(e), no own __init__ -/
theorem pe_x1 (q : X0 X.K C) (gC : X.mg x = some (.ref C)) (he : PE X e te) (hg : Gl X x := by rfl) (hs : starEach [e] X.env = (false, eval e X.env) :: starEach [] X.env := by rfl) (hdb : (x == ("__debug__" : Str)) = false := by decide) :
    PE X (.Call (.Name x p) [e] [] pos) (tXm1 C te) := by
  refine ⟨fun pins s σ H Q I h => ?_⟩
  refine wpAny_Call_Name_kw (ld_glob I hg gC ?_ hdb)
  refine PySem.W.callWith_K (h₀ := X.base) I.ok.mod.kin q.k ?_ hs (by rfl)
  rw [hs]
  show wpAny _ _ (spliced ((false, eval e X.env) :: backTo pos (starEach [] X.env))) _ _ s
  refine Calls.spliced_cons (thn (he.run pins s σ H _ I h) fun u s1 ⟨v, H1, I1, r1, q1⟩ => ?_)
  refine Calls.spliced_nil ⟨I1.kIn, ?_⟩
  show wpAny _ _ (call (.ref C) [u]) _ _ _
  obtain ⟨bm, N, nm, qn, bs, hdct, sn, sub, ab, col, dd, k0, k1, k2, k3, k5, mN, hC, hN, hni, T⟩ := exc_obj I1.kIn q.q
  refine wpAny_call_exc_subT F.excBase_ValueError T hC hN hni (fun h' a hm => ?_) (by show 1 ≤ sizeLine; rw [sizeLine_eq]; omega)
  have hn : H1 a = none := I1.hok.gone hm.new
  obtain ⟨t, ht, tn, tt⟩ := hm.there
  have hnt : H1 t = none := I1.hok.gone tn
  have nta : t ≠ a := fun z => by
    rw [z, ht] at tt
    have := congrArg Obj.cls (Option.some.inj tt)
    cases this
  have nold : ∀ b o, s1.heap.get? b = some o → b ≠ t ∧ b ≠ a := fun b o eb => ⟨(fun z => by rw [z, tn] at eb; cases eb), (fun z => by rw [z, hm.new] at eb; cases eb)⟩
  have off : ∀ b, b ≠ t → b ≠ a → upd (upd H1 t (.tup [v])) a (ExA C t a) b = H1 b := fun b h1 h2 => by rw [upd_ne h2, upd_ne h1]
  have keepH : ∀ b o, H1 b = some o → upd (upd H1 t (.tup [v])) a (ExA C t a) b = some o := fun b o eb => by
    rw [off b (ne_of_none eb hnt) (ne_of_none eb hn)]; exact eb
  have U : Un (frs X.stack) [] H1 (upd (upd H1 t (.tup [v])) a (ExA C t a)) s1.heap h' := {
    keep := fun b o eb _ _ _ => hm.keeps b o eb
    slot := fun b o eb _ _ _ => ⟨o.slots, hm.keeps b o eb⟩
    free := fun b o eb n _ => by
      obtain ⟨h1, h2⟩ := nold b o eb
      rw [off b h1 h2]; exact n
    there := fun b o eb _ => ⟨o, hm.keeps b o eb⟩
    tups := fun b xs eb => keepH b _ eb
    frzs := fun b o u eb => keepH b _ eb
    tbls := fun b ps eb => ⟨#[], by rw [keepH b _ eb]; simp⟩ }
  have okT : ObjOk X.prog X.w (upd H1 t (.tup [v])) h' t (.tup [v]) := ⟨by show 1 ≤ sizeLine; decide, [u], .cons r1 .nil, ⟨_, tt, rfl, _, rfl⟩⟩
  have hok : HOk X.prog X.w (upd (upd H1 t (.tup [v])) a (ExA C t a)) h' :=
    HOk.laidN (HOk.laidN I1.hok hm.keeps hnt okT) (fun _ _ z => z) (by rw [upd_ne nta.symm]; exact hn) (exA_ok ht)
  have J := I1.call' (ch := []) (s' := { s1 with heap := h' }) rfl U hok I1.bare (fun b z => nomatch z)
  exact ⟨.ref a, _, J, rfl, q1 a t hn hnt nta⟩
/-- isinstance(e, c) -/
def rIsV (K : PySem.W.Frag) : List V → Hp → VK → Prop := fun xs H Q => ∃ (a D : Addr) (kvs : List (Str × V)) (c : V) (cv : Value) (b : Bool), xs = [.ref a, c] ∧ Xv H a D kvs ∧ ExcC K D ∧ (∀ u, RelV c u → u = cv) ∧ PySem.W.kitOne K (.ref D) cv = some b ∧ Q (.bl b) H
theorem call_isV (K : PySem.W.Frag) (hK : X.K = K := by rfl) : CallR X (.builtin "isinstance") (rIsV K) := by
  subst hK
  intro pins s σ H xs us Q I r h
  obtain ⟨a, D, kvs, c, cv, b, rfl, xv, C, hcv, e, q⟩ := h
  cases r with
  | cons rx rr =>
    cases rr with
    | cons rt rr =>
      cases rr
      cases rx
      have ec := hcv _ rt
      subst ec
      have hcl : (PySem.W.clsIn X.K D).isSome = true := by
        have h := C.hd
        unfold PySem.W.hasDictIn at h
        cases q : PySem.W.clsIn X.K D with
        | some _ => rfl
        | none => rw [q] at h; cases h
      obtain ⟨oe, od, J, _⟩ := xv.inst (K := X.K) I.hok
      exact PySem.W.kia_one (prog := X.prog) (w := X.w) (A := X.A) (E := X.xe) (Q := EP X pins σ Q) (PySem.W.kitx_exc (od := od) hcl C.hg C.hk C.hs C.ha C.hn C.ht C.hm) I.kIn J e (fun z => nomatch z) fun tk => ⟨.bl b, H, I.kept (t' := tk) fun _ _ z => z, rfl, q⟩
/-- e.f -/
def tXv (K : PySem.W.Frag) (f : Str) (te : TE) : TE := fun σ H Q => te σ H fun x H1 => ∃ (a C : Addr) (fs : List Str) (kvs : List (Str × V)) (v : V), x = .ref a ∧ Xv H1 a C kvs ∧ XC K C fs ∧ f ∈ fs ∧ kvs.lookup f = some v ∧ Q v H1
theorem pe_xv {n : Str} (he : PE X e te) (hb : attributeBase e n X.env (eval e X.env) = eval e X.env := by rfl) : PE X (.Attribute e n pos) (tXv X.K n te) := by
  refine ⟨fun pins s σ H Q I h => ?_⟩
  refine attr_of hb (thn (he.run pins s σ H _ I h) fun u s1 hh => ?_)
  obtain ⟨x, H1, I1, rx, a, C, fs, kvs, v, ex, xv, xc, hm, l, q⟩ := hh
  subst ex
  obtain rfl : u = Value.ref a := rx
  rcases xv with ⟨d, e1, e2⟩ | ⟨t, e1, e2⟩
  · obtain ⟨t1, ho⟩ := exo_at I1.hok e1
    obtain ⟨mA, hns, hr⟩ := exd_at I1.hok e2
    obtain ⟨od, hod, hl⟩ := lookIn_ns hns
    obtain ⟨u, hu, ru⟩ := RelO.some_of (v := v) (o := mA n) (by rw [← l]; exact hr n)
    have J : PySem.W.InstAt s1.heap a _ C (some od) := ⟨ho, rfl, rfl, hod⟩
    exact HandSPX.exc_get I1.kIn J xc.x.ga xc.x.gg xc.x.exC (PySem.W.findObj_own xc.x.hdC (xc.no n hm) rfl (by rw [hl, hu])) (handed_of ru) ⟨v, H1, I1.tok _, ru, q⟩
  · rw [e2] at l; cases l
/-- str(e), e made of one text -/
def rStrX (K : PySem.W.Frag) : List V → Hp → VK → Prop := fun xs H Q => ∃ (a C t : Addr) (z : Str), xs = [.ref a] ∧ H a = some (ExA C t a) ∧ H t = some (.tup [.str z]) ∧ PySem.W.findIn K (.ref C) "__str__" = some (some (.builtin "BaseException.__str__")) ∧ PySem.W.subIn K (.ref C) (.type "BaseException") = some true ∧ Q (.str z) H
theorem call_strX (K : PySem.W.Frag) (hu : X.A.units + 2 < cLine) (hK : X.K = K := by rfl) : CallR X (.type "str") (rStrX K) := by
  subst hK
  intro pins s σ H xs us Q I r h
  obtain ⟨a, C, t, z, rfl, ea, et, hs, hB, q⟩ := h
  cases r with
  | cons rx rr =>
    cases rr
    cases rx
    obtain ⟨_, us, rv, o, ho, hc, n, hd⟩ := I.hok t _ et
    cases rv with
    | cons r1 rr =>
      cases rr
      obtain ⟨tk, rfl⟩ := r1
      exact PySem.P.str_of_C_one hu ⟨I.kIn, _, _, exA_at I.hok ea, rfl, rfl, rfl⟩ ⟨o, n, ho, hc, hd⟩ hs hB ⟨.str z, H, I, ⟨_, rfl⟩, q⟩
/-- len(set(xs)), xs ints, some of them alike -/
def apartN (ns : List Int) : Nat := (PyProof.Rows.firstMet (fun j => ns.getD j 0) ns.length).length
def tLenSetG (K : PySem.W.Frag) (ta : TE) : TE := fun σ H Q => ta σ H fun x H1 => ∃ (l : Addr) (ns : List Int), x = .ref l ∧ SqL K H1 l (ns.map V.int) ∧ ns.length ≤ 4000 ∧ Q (.int (apartN ns : Nat)) H1
theorem pe_lenSetG {a : Expr} {p1 p2 q1 q2 : Pos} (gl : Gl X "len") (ml : X.mg "len" = none) (gs : Gl X "set") (ms : X.mg "set" = none) (ha : PE X a te) (hc : X.calm = true := by rfl)
    (na : starEach [a] X.env = (false, eval a X.env) :: starEach [] X.env := by rfl) : PE X (.Call (.Name "len" p1) [.Call (.Name "set" p2) [a] [] q1] [] q2) (tLenSetG X.K te) := by
  constructor
  intro pins s σ H Q I h
  refine Call_ (ld_blt I gl ml boot_len ?_)
  refine PyProof.Rows.callWith_builtin1 (PyProof.Rows.args_cons ?inner rfl) rfl rfl
  refine Call_ (ld_blt I gs ms boot_set ?_)
  refine PyProof.Rows.callWith_type1 (PyProof.Rows.args_cons ?_ na) na rfl
  refine thn (ha.run pins s σ H _ I h) fun v s1 hv => PyProof.Rows.args_nil ?_
  obtain ⟨x, H1, I1, r1, l, ns, rfl, sq, hl, q⟩ := hv
  cases r1
  obtain ⟨its, rv, pl, hz⟩ := I1.list sq
  have e1 : its.toArray.size = ns.length := by
    have := rv.length
    rw [List.length_map] at this
    simp [this]
  have hint : PyProof.Rows.IntsAre its.toArray.toList ns := by simpa using RZ.intsAre_vals rv
  apply call_set_list (I1.ok.hd hc) pl.isList hint
  · rw [e1]; unfold scanBound; omega
  · intro h' tk hS hk
    refine PyProof.Rows.args_nil ?_
    rw [e1] at hS
    have lo : apartN ns ≤ ns.length := PyProof.Rows.firstMet_length_le _ _
    obtain ⟨o, es, ep, t, ho, hex, hd, _, _, _, hf, hn⟩ := hS
    have I2 : Inv X pins σ H1 { s1 with heap := h', toks := tk } := I1.kept fun b o e => hk b o (Heap.lt_size e) e
    have e2 : es.size = apartN ns := hn
    refine call_len_set ho hex hd hf (by rw [e2]; omega) ?_
    exact ⟨.int (apartN ns : Nat), H1, I2.tok _, ⟨_, by rw [e2]⟩, q⟩
end
/-! ### data in which a dict of texts may lie -/
mutual
inductive DpD (H : Hp) : V → PyData → Prop
  | non : DpD H .non .none
  | bl (b : Bool) : DpD H (.bl b) (.bool b)
  | int (i : Int) : DpD H (.int i) (.int i)
  | str (x : Str) : DpD H (.str x) (.str x)
  | dct {a : Addr} {x : Str} {v : V} {d : PyData} : H a = some (.dK [(.inr x, v)]) → DpD H v d → DpD H (.ref a) (.dict [(.str x, d)])
  | lst {a : Addr} {xs : List V} {ds : List PyData} : H a = some (.lst xs) → DpDs H xs ds → DpD H (.ref a) (.list ds)
  | tup {a : Addr} {xs : List V} {ds : List PyData} : H a = some (.tup xs) → DpDs H xs ds → DpD H (.ref a) (.tuple ds)
inductive DpDs (H : Hp) : List V → List PyData → Prop
  | nil : DpDs H [] []
  | cons {v : V} {vs : List V} {d : PyData} {ds : List PyData} : DpD H v d → DpDs H vs ds → DpDs H (v :: vs) (d :: ds)
end
/-- the table of modules is of the written part: nothing tracked is it -/
theorem ne_sys {X : Cx} {pins : List (Addr × Obj)} {σ : St} {H : Hp} {s : Shared} (I : Inv X pins σ H s) (hk : (X.K.lookup sysModules).isSome = true) {a : Addr} {o : HO} (e : H a = some o) : a ≠ sysModules := fun z => by
  subst z
  cases ek : X.K.lookup sysModules with
  | none => rw [ek] at hk; cases hk
  | some u =>
    have := (I.bs _ _ (I.ok.mod.kin _ _ ek)).2
    rw [e] at this; cases this
mutual
theorem DpD.reads {X : Cx} {pins : List (Addr × Obj)} {σ : St} {H : Hp} {s : Shared} (hk : (X.K.lookup sysModules).isSome = true) (I : Inv X pins σ H s) : ∀ (d : PyData) (v : V) (u : Value), DpD H v d → RelV v u → ∃ as, Reads s.heap u d as ∧ sysModules ∉ as
  | .none, _, _, h, r => by cases h; cases r; exact ⟨_, Reads.none, by simp⟩
  | .bool b, _, _, h, r => by cases h; cases r; exact ⟨_, Reads.bool b, by simp⟩
  | .int i, _, _, h, r => by cases h; obtain ⟨t, rfl⟩ := r; exact ⟨_, Reads.int i t, by simp⟩
  | .str x, _, _, h, r => by cases h; obtain ⟨t, rfl⟩ := r; exact ⟨_, Reads.str x t, by simp⟩
  | .list ds, _, _, h, r => by
    cases h with
    | lst hs ha =>
      cases r
      have hns := ne_sys I hk hs
      obtain ⟨its, rv, ⟨o, n, ho, hc, _, hd⟩, _⟩ := I.list (SqL.of (K := X.K) hs)
      obtain ⟨as, hr, hn⟩ := DpD.readsAll hk I ds _ its ha rv
      refine ⟨_, Reads.list ho hc hd hr, fun z => ?_⟩
      rcases List.mem_cons.mp z with y | y
      · exact hns y.symm
      · exact hn y
  | .tuple ds, _, _, h, r => by
    cases h with
    | tup hs ha =>
      cases r
      obtain ⟨its, rv, ⟨o, ho, hc, n, hd⟩, _⟩ := I.tuple (SqT.of (K := X.K) hs)
      obtain ⟨as, hr, hn⟩ := DpD.readsAll hk I ds _ its ha rv
      exact ⟨_, Reads.tuple ho hc hd hr, hn⟩
  | .dict [(.str x, d)], _, _, h, r => by
    cases h with
    | @dct a _ _ _ hs hv =>
      cases r
      obtain ⟨z, hm, vs, rel, dd⟩ := dk_of I.hok hs
      obtain ⟨o, es, ep, ho, hx, hdt, he, hp, _⟩ := dd
      cases rel with
      | @cons _ q _ _ hq hr =>
        cases hr
        obtain ⟨q1, q2⟩ := q
        obtain ⟨e1, r2⟩ := hq
        have e1 : (Sum.inr x : L2.Key) = q1 := e1
        subst e1
        generalize he0 : es.toList = el at hp
        cases hp with
        | @cons en _ _ _ hkey hv2 ht =>
          cases ht
          obtain ⟨tk, ek⟩ : ∃ tk, en.key = Value.str x tk := by
            rcases keyIs_shape (show keyIs (Sum.inr x) en.key = true from hkey) with ⟨_, _, a1, _⟩ | ⟨x', t', a1, a2⟩
            · cases a1
            · cases a1; exact ⟨t', a2⟩
          have hv2 : en.val = q2 := hv2
          obtain ⟨as, hd, hn⟩ := DpD.reads hk I d _ _ hv r2
          have k1 : ReadsAll s.heap (es.toList.map (·.key)) ([((.str x : PyData), d)].map (·.1)) ([] ++ []) := by
            rw [he0]
            show ReadsAll s.heap [en.key] [.str x] ([] ++ [])
            rw [ek]
            exact .cons (.str x tk) .nil
          have k2 : ReadsAll s.heap (es.toList.map (·.val)) ([((.str x : PyData), d)].map (·.2)) (as ++ []) := by
            rw [he0]
            show ReadsAll s.heap [en.val] [d] (as ++ [])
            rw [hv2]
            exact .cons hd .nil
          refine ⟨_, Reads.dict ho hx.1 hdt k1 k2, fun y => ?_⟩
          have y' : sysModules ∈ a :: as := by simpa using y
          rcases List.mem_cons.mp y' with y | y
          · exact (beq_eq_false_iff_ne.mp hm) y.symm
          · exact hn y
theorem DpD.readsAll {X : Cx} {pins : List (Addr × Obj)} {σ : St} {H : Hp} {s : Shared} (hk : (X.K.lookup sysModules).isSome = true) (I : Inv X pins σ H s) : ∀ (ds : List PyData) (vs : List V) (us : List Value), DpDs H vs ds → Vals vs us → ∃ as, ReadsAll s.heap us ds as ∧ sysModules ∉ as
  | [], _, _, h, r => by cases h; cases r; exact ⟨_, ReadsAll.nil, by simp⟩
  | d :: ds, _, _, h, r => by
    cases h with
    | cons h1 h2 =>
      cases r with
      | cons r1 r2 =>
        obtain ⟨as, q1, n1⟩ := DpD.reads hk I d _ _ h1 r1
        obtain ⟨bs, q2, n2⟩ := DpD.readsAll hk I ds _ _ h2 r2
        exact ⟨_, ReadsAll.cons q1 q2, fun z => (List.mem_append.mp z).elim n1 n2⟩
end
/-- repr(v), v such data -/
def rReprD (vs : List V) (H : Hp) (Q : VK) : Prop := ∃ v d, vs = [v] ∧ DpD H v d ∧ d.showable = true ∧ d.shown.length ≤ sizeLine ∧ d.depth ≤ 60 ∧ Q (.str d.shown) H
section
variable {X : Cx}
theorem call_reprD {k : Nat} (hk : (X.K.lookup sysModules).isSome = true) (hr : RG k X.A) : CallR X (.builtin "repr") rReprD := by
  intro pins s σ H xs us Q I r h
  obtain ⟨v, d, rfl, hd, hs, hl, hdp, q⟩ := h
  obtain ⟨u, rfl, ru⟩ := vals1 r
  have un := hr.r.units
  cases hd with
  | non => cases ru; exact PySem.P.repr_of_none ⟨.str _, H, I.tok _, ⟨_, rfl⟩, by simpa only [PyData.shown] using q⟩
  | bl b => cases ru; exact PySem.P.repr_of_bool ⟨.str _, H, I.tok _, ⟨_, rfl⟩, by simpa only [PyData.shown] using q⟩
  | int i =>
    obtain ⟨t, rfl⟩ := ru
    exact PySem.P.repr_of_int (by simpa only [PyData.showable, decide_eq_true_eq] using hs) ⟨.str _, H, I.tok _, ⟨_, rfl⟩, by simpa only [PyData.shown] using q⟩
  | str x =>
    obtain ⟨t, rfl⟩ := ru
    exact PySem.P.repr_of_str ⟨.str _, H, I.tok _, ⟨_, rfl⟩, by simpa only [PyData.shown] using q⟩ (by simpa only [PyData.shown] using hl)
  | dct a n =>
    obtain rfl := ru
    obtain ⟨as, rd, nas⟩ := DpD.reads hk I _ _ _ (DpD.dct a n) rfl
    exact repr_of_reads' rd hs (fun _ => nas) hr.g (by omega) (fun _ _ z => z) (fun h' u tk kp => ⟨.str _, H, I.kept kp, ⟨_, rfl⟩, q⟩) hl
  | lst a b =>
    obtain rfl := ru
    obtain ⟨as, rd, nas⟩ := DpD.reads hk I _ _ _ (DpD.lst a b) rfl
    exact repr_of_reads' rd hs (fun _ => nas) hr.g (by omega) (fun _ _ z => z) (fun h' u tk kp => ⟨.str _, H, I.kept kp, ⟨_, rfl⟩, q⟩) hl
  | tup a b =>
    obtain rfl := ru
    obtain ⟨as, rd, nas⟩ := DpD.reads hk I _ _ _ (DpD.tup a b) rfl
    exact repr_of_reads' rd hs (fun _ => nas) hr.g (by omega) (fun _ _ z => z) (fun h' u tk kp => ⟨.str _, H, I.kept kp, ⟨_, rfl⟩, q⟩) hl
theorem pe_reprD {k : Nat} {p pos : Pos} {e : Expr} {te : TE} (hk : (X.K.lookup sysModules).isSome = true) (hr : RG k X.A) (hm : X.mg "repr" = none) (he : PE X e te) (hg : Gl X "repr" := by rfl)
    (hs : starEach (e :: []) X.env = (false, eval e X.env) :: starEach [] X.env := by rfl) (hpl : (backTo pos (starEach [] X.env)).any (·.1) = false := by rfl) :
    PE X (.Call (.Name "repr" p) [e] [] pos) (tCB rReprD (tCons te tNil)) := pe_callB (call_reprD hk hr) hg hm boot_repr (pa_cons he pa_nil hs) (by decide) (by decide) hs hpl
end
theorem RG.u2 {k : Nat} {A : Around} (hr : RG k A) : A.units + 2 < cLine := by have := hr.r.units; omega
/-- the classes lie apart -/
def isAllB (K : PySem.W.Frag) (cs : List Str) (r : Str) : Bool := (cs.all fun c => (cs.all fun d => decide (PySem.W.kitOne K (.ref (He.ga K c)) (.ref (He.ga K d)) = some (decide (c = d)))) && (decide (PySem.W.kitOne K (.ref (He.ga K c)) (.ref (He.ga K r)) = some true) && decide (PySem.W.kitOne K (.ref (He.ga K c)) (.type "ValueError") = some true))) &&
  ((cs.all fun d => decide (PySem.W.kitOne K (.ref (He.ga K r)) (.ref (He.ga K d)) = some false)) && (decide (PySem.W.kitOne K (.ref (He.ga K r)) (.type "ValueError") = some true) && (decide (PySem.W.findIn K (.ref (He.ga K r)) "__str__" = some (some (.builtin "BaseException.__str__"))) && decide (PySem.W.subIn K (.ref (He.ga K r)) (.type "BaseException") = some true))))
structure IsAll (K : PySem.W.Frag) (cs : List Str) (r : Str) : Prop where
  cc : ∀ c ∈ cs, ∀ d ∈ cs, PySem.W.kitOne K (.ref (He.ga K c)) (.ref (He.ga K d)) = some (decide (c = d))
  cr : ∀ c ∈ cs, PySem.W.kitOne K (.ref (He.ga K c)) (.ref (He.ga K r)) = some true
  cv : ∀ c ∈ cs, PySem.W.kitOne K (.ref (He.ga K c)) (.type "ValueError") = some true
  rc : ∀ d ∈ cs, PySem.W.kitOne K (.ref (He.ga K r)) (.ref (He.ga K d)) = some false
  rv : PySem.W.kitOne K (.ref (He.ga K r)) (.type "ValueError") = some true
  rs : PySem.W.findIn K (.ref (He.ga K r)) "__str__" = some (some (.builtin "BaseException.__str__"))
  rb : PySem.W.subIn K (.ref (He.ga K r)) (.type "BaseException") = some true
theorem isAll_ok {K : PySem.W.Frag} {cs : List Str} {r : Str} (h : isAllB K cs r = true) : IsAll K cs r := by
  unfold isAllB at h
  obtain ⟨h1, h⟩ := ba2 h
  obtain ⟨h2, h⟩ := ba2 h
  obtain ⟨h3, h⟩ := ba2 h
  obtain ⟨h4, h5⟩ := ba2 h
  have f1 := fun c hc => ba2 (List.all_eq_true.mp h1 c hc)
  exact ⟨fun c hc d hd => of_decide_eq_true (List.all_eq_true.mp (f1 c hc).1 d hd), fun c hc => of_decide_eq_true (ba2 (f1 c hc).2).1, fun c hc => of_decide_eq_true (ba2 (f1 c hc).2).2, fun d hd => of_decide_eq_true (List.all_eq_true.mp h2 d hd), of_decide_eq_true h3, of_decide_eq_true h4, of_decide_eq_true h5⟩
/-! ### the Hook, with the table of modules among what is read -/
def frZ (g : Addr → Option Obj) (n : Nat) : PySem.W.Frag := He.frT g (sysModules :: cStatics :: asY g n [mainGlobals] [mainGlobals] (1 <<< mainGlobals))
def obsZ (n : Nat) (fa : List He.Fa) (fn : List He.DefD) (ex : PySem.W.Frag → Bool) (g : Addr → Option Obj) : He.AlD × Bool := (He.obsD fa fn (frZ g n), ex (frZ g n))
def hookZ (n : Nat) (fa : List He.Fa) (fn : List He.DefD) (ex : PySem.W.Frag → Bool) : PySem.W.Hook where
  α := He.AlD × Bool
  obs := fun s => obsZ n fa fn ex s.heap.get?
  val := fun _ => (He.valD fn, true)
  says := fun _ h => ∃ K : PySem.W.Frag, K.In h ∧ He.SaysD fa fn K ∧ ex K = true
  of := fun _ _ e => ⟨_, He.frT_in, congrArg Prod.fst e, congrArg Prod.snd e⟩
  keeps := fun _ _ _ ⟨K, hK, c⟩ k => ⟨K, PySem.W.Frag.In.keeps hK k, c⟩
theorem obsZ_eq {n : Nat} {fa : List He.Fa} {fn : List He.DefD} {ex : PySem.W.Frag → Bool} {g : Addr → Option Obj} {s : Shared} (h : ∀ a, g a = s.heap.get? a) : obsZ n fa fn ex g = (hookZ n fa fn ex).obs s := by
  have e : g = s.heap.get? := funext h
  rw [e] <;> rfl
end FG

/-! short tactics of our own, local to this text -/
local macro_rules | `(tactic| walk_at "ne") => `(tactic| first | assumption | (apply Ne.symm; assumption) | grind)
local macro_rules | `(tactic| walk_at "hl") => `(tactic| first | assumption | exact L2.upd_same | exact (L2.upd_ne (by walk_at "ne")).trans (by walk_at "hl"))
local macro_rules | `(tactic| walk_at "c") => `(tactic| first | omega | (refine ⟨?_, ?_⟩ <;> omega) | (refine ⟨?_, ?_, ?_⟩ <;> omega) | decide)
/-- one step of a reading -/
local macro_rules | `(tactic| walk_at "r1") => `(tactic| first
  | refine ⟨_, rfl, ?_⟩
  | refine ⟨_, _, rfl, rfl, ?_⟩
  | refine ⟨_, _, _, _, rfl, rfl, SqL.of (by walk_at "hl"), rfl, ?_⟩
  | refine ⟨_, _, rfl, .inl (SqL.of (by walk_at "hl")), ?_⟩
  | refine ⟨_, _, rfl, rfl, (by walk_at "c"), ?_⟩
  | refine ⟨_, _, rfl, rfl, .inl (by walk_at "c"), ?_⟩)
local macro_rules | `(tactic| walk_at "rd") => `(tactic| repeat walk_at "r1")
/-- to the next statement -/
local macro_rules | `(tactic| walk_at "nx") => `(tactic| ((try dsimp only); (first | refine FG.nx_next ?_ | refine FG.nx_name ?_ | skip); (try dsimp only)))
namespace Lw
open PySem PySem.Spec L2 FG
open PyProof.Rows hiding St
def top (i : Nat) : Stmt := PySem.Challenge.pw_framerooms_k03_refusals_apart.main.body.getD i (.Pass ⟨0, 0, 0, 0⟩)
abbrev s__law_cell : Stmt := top 30
abbrev s__law_box : Stmt := top 31
abbrev s__law_take : Stmt := top 32
abbrev s__law_thing : Stmt := top 33
abbrev s__law_made : Stmt := top 34
abbrev s__law_field : Stmt := top 35
abbrev s__law_kinds : Stmt := top 36
abbrev s__law_apart : Stmt := top 37
abbrev s__law_number : Stmt := top 38
abbrev s__law_text : Stmt := top 39
abbrev s__law_plain_right : Stmt := top 40
abbrev s__law_bare_right : Stmt := top 41
abbrev s_law : Stmt := top 42
abbrev s_NoNumber___init__ : Stmt := inClass (top 2) 0
abbrev s_NoName___init__ : Stmt := inClass (top 3) 0
abbrev s_NoValue___init__ : Stmt := inClass (top 4) 0
abbrev s_NoFrame___init__ : Stmt := inClass (top 5) 0
abbrev s_Gone___init__ : Stmt := inClass (top 6) 0
abbrev s_TooMany___init__ : Stmt := inClass (top 8) 0
abbrev s_Full___init__ : Stmt := inClass (top 9) 0
abbrev s_NoWay___init__ : Stmt := inClass (top 10) 0
abbrev s_NoCell___init__ : Stmt := inClass (top 11) 0
abbrev s_NoHands___init__ : Stmt := inClass (top 12) 0
abbrev s_Kept___init__ : Stmt := inClass (top 13) 0
abbrev s_NoDeed___init__ : Stmt := inClass (top 14) 0
abbrev s_TooDeep___init__ : Stmt := inClass (top 15) 0
abbrev s_TooWide___init__ : Stmt := inClass (top 16) 0
abbrev s_TooLong___init__ : Stmt := inClass (top 17) 0
abbrev s_Twice___init__ : Stmt := inClass (top 18) 0
abbrev s_NoLabel___init__ : Stmt := inClass (top 19) 0
abbrev s_NoChoices___init__ : Stmt := inClass (top 20) 0
abbrev s_NoMaking___init__ : Stmt := inClass (top 21) 0
abbrev s_NotStraight___init__ : Stmt := inClass (top 22) 0
abbrev s_NoText___init__ : Stmt := inClass (top 23) 0
abbrev s_NoManner___init__ : Stmt := inClass (top 24) 0
abbrev s_NoNames___init__ : Stmt := inClass (top 25) 0
abbrev s_NoLine___init__ : Stmt := inClass (top 26) 0
theorem sc__law_cell : FnScope ["_law_script", "_law_k"] ["_law_script", "_law_k"] (defScope s__law_cell) := ⟨rfl, rfl, rfl, by decide +kernel, rfl, by decide +kernel, by decide +kernel⟩
theorem sc__law_box : FnScope ["_law_cell_here"] ["_law_cell_here"] (defScope s__law_box) := ⟨rfl, rfl, rfl, by decide +kernel, rfl, by decide +kernel, by decide +kernel⟩
theorem sc__law_take : FnScope ["_law_box_here", "_law_many", "_law_digit", "_law_one", "_law_other"] ["_law_box_here", "_law_many"] (defScope s__law_take) := ⟨rfl, rfl, rfl, by decide +kernel, rfl, by decide +kernel, by decide +kernel⟩
theorem sc__law_thing : FnScope ["_law_box_here", "_law_some", "_law_k"] ["_law_box_here"] (defScope s__law_thing) := ⟨rfl, rfl, rfl, by decide +kernel, rfl, by decide +kernel, by decide +kernel⟩
theorem sc__law_made : FnScope ["_law_thing_here", "_law_more", "_law_made_here", "_law_one", "_law_found", "_law_name", "_law_gone", "_law_full"] ["_law_thing_here", "_law_more"] (defScope s__law_made) := ⟨rfl, rfl, rfl, by decide +kernel, rfl, by decide +kernel, by decide +kernel⟩
theorem sc__law_field : FnScope ["_law_e", "_law_name"] ["_law_e", "_law_name"] (defScope s__law_field) := ⟨rfl, rfl, rfl, by decide +kernel, rfl, by decide +kernel, by decide +kernel⟩
theorem sc__law_kinds : FnScope ["_law_e", "_law_kinds_here"] ["_law_e"] (defScope s__law_kinds) := ⟨rfl, rfl, rfl, by decide +kernel, rfl, by decide +kernel, by decide +kernel⟩
theorem sc__law_apart : FnScope ["_law_e", "_law_at", "_law_k"] ["_law_e", "_law_at"] (defScope s__law_apart) := ⟨rfl, rfl, rfl, by decide +kernel, rfl, by decide +kernel, by decide +kernel⟩
theorem sc__law_number : FnScope ["_law_e", "_law_kinds_here"] ["_law_e"] (defScope s__law_number) := ⟨rfl, rfl, rfl, by decide +kernel, rfl, by decide +kernel, by decide +kernel⟩
theorem sc__law_text : FnScope ["_law_box_here", "_law_signs", "_law_k"] ["_law_box_here"] (defScope s__law_text) := ⟨rfl, rfl, rfl, by decide +kernel, rfl, by decide +kernel, by decide +kernel⟩
theorem sc__law_plain_right : FnScope ["_law_box_here", "_law_texts", "_law_plain", "_law_text_here", "_law_e"] ["_law_box_here"] (defScope s__law_plain_right) := ⟨rfl, rfl, rfl, by decide +kernel, rfl, by decide +kernel, by decide +kernel⟩
theorem sc__law_bare_right : FnScope ["_law_box_here", "_law_far", "_law_some", "_law_thing_here", "_law_made_here", "_law_name", "_law_own"] ["_law_box_here"] (defScope s__law_bare_right) := ⟨rfl, rfl, rfl, by decide +kernel, rfl, by decide +kernel, by decide +kernel⟩
theorem sc_law : FnScope ["_law_script", "_law_k", "_law_box_here", "_law_thing_here", "_law_more", "_law_seen", "_law_made_here", "_law_name", "_law_own"] ["_law_script"] (defScope s_law) := ⟨rfl, rfl, rfl, by decide +kernel, rfl, by decide +kernel, by decide +kernel⟩
theorem sc_NoNumber___init__ : FnScope ["self", "found"] ["self", "found"] (defScope s_NoNumber___init__) := ⟨rfl, rfl, rfl, by decide +kernel, rfl, by decide +kernel, by decide +kernel⟩
theorem sc_NoName___init__ : FnScope ["self", "found"] ["self", "found"] (defScope s_NoName___init__) := ⟨rfl, rfl, rfl, by decide +kernel, rfl, by decide +kernel, by decide +kernel⟩
theorem sc_NoValue___init__ : FnScope ["self", "found"] ["self", "found"] (defScope s_NoValue___init__) := ⟨rfl, rfl, rfl, by decide +kernel, rfl, by decide +kernel, by decide +kernel⟩
theorem sc_NoFrame___init__ : FnScope ["self", "found"] ["self", "found"] (defScope s_NoFrame___init__) := ⟨rfl, rfl, rfl, by decide +kernel, rfl, by decide +kernel, by decide +kernel⟩
theorem sc_Gone___init__ : FnScope ["self", "found", "by"] ["self", "found", "by"] (defScope s_Gone___init__) := ⟨rfl, rfl, rfl, by decide +kernel, rfl, by decide +kernel, by decide +kernel⟩
theorem sc_TooMany___init__ : FnScope ["self", "many"] ["self", "many"] (defScope s_TooMany___init__) := ⟨rfl, rfl, rfl, by decide +kernel, rfl, by decide +kernel, by decide +kernel⟩
theorem sc_Full___init__ : FnScope ["self", "need", "spare"] ["self", "need", "spare"] (defScope s_Full___init__) := ⟨rfl, rfl, rfl, by decide +kernel, rfl, by decide +kernel, by decide +kernel⟩
theorem sc_NoWay___init__ : FnScope ["self", "found"] ["self", "found"] (defScope s_NoWay___init__) := ⟨rfl, rfl, rfl, by decide +kernel, rfl, by decide +kernel, by decide +kernel⟩
theorem sc_NoCell___init__ : FnScope ["self", "found"] ["self", "found"] (defScope s_NoCell___init__) := ⟨rfl, rfl, rfl, by decide +kernel, rfl, by decide +kernel, by decide +kernel⟩
theorem sc_NoHands___init__ : FnScope ["self", "found"] ["self", "found"] (defScope s_NoHands___init__) := ⟨rfl, rfl, rfl, by decide +kernel, rfl, by decide +kernel, by decide +kernel⟩
theorem sc_Kept___init__ : FnScope ["self", "ways"] ["self", "ways"] (defScope s_Kept___init__) := ⟨rfl, rfl, rfl, by decide +kernel, rfl, by decide +kernel, by decide +kernel⟩
theorem sc_NoDeed___init__ : FnScope ["self", "found"] ["self", "found"] (defScope s_NoDeed___init__) := ⟨rfl, rfl, rfl, by decide +kernel, rfl, by decide +kernel, by decide +kernel⟩
theorem sc_TooDeep___init__ : FnScope ["self", "depth"] ["self", "depth"] (defScope s_TooDeep___init__) := ⟨rfl, rfl, rfl, by decide +kernel, rfl, by decide +kernel, by decide +kernel⟩
theorem sc_TooWide___init__ : FnScope ["self", "many"] ["self", "many"] (defScope s_TooWide___init__) := ⟨rfl, rfl, rfl, by decide +kernel, rfl, by decide +kernel, by decide +kernel⟩
theorem sc_TooLong___init__ : FnScope ["self", "many"] ["self", "many"] (defScope s_TooLong___init__) := ⟨rfl, rfl, rfl, by decide +kernel, rfl, by decide +kernel, by decide +kernel⟩
theorem sc_Twice___init__ : FnScope ["self", "label"] ["self", "label"] (defScope s_Twice___init__) := ⟨rfl, rfl, rfl, by decide +kernel, rfl, by decide +kernel, by decide +kernel⟩
theorem sc_NoLabel___init__ : FnScope ["self", "label"] ["self", "label"] (defScope s_NoLabel___init__) := ⟨rfl, rfl, rfl, by decide +kernel, rfl, by decide +kernel, by decide +kernel⟩
theorem sc_NoChoices___init__ : FnScope ["self", "found"] ["self", "found"] (defScope s_NoChoices___init__) := ⟨rfl, rfl, rfl, by decide +kernel, rfl, by decide +kernel, by decide +kernel⟩
theorem sc_NoMaking___init__ : FnScope ["self", "found"] ["self", "found"] (defScope s_NoMaking___init__) := ⟨rfl, rfl, rfl, by decide +kernel, rfl, by decide +kernel, by decide +kernel⟩
theorem sc_NotStraight___init__ : FnScope ["self", "number"] ["self", "number"] (defScope s_NotStraight___init__) := ⟨rfl, rfl, rfl, by decide +kernel, rfl, by decide +kernel, by decide +kernel⟩
theorem sc_NoText___init__ : FnScope ["self", "line"] ["self", "line"] (defScope s_NoText___init__) := ⟨rfl, rfl, rfl, by decide +kernel, rfl, by decide +kernel, by decide +kernel⟩
theorem sc_NoManner___init__ : FnScope ["self", "found"] ["self", "found"] (defScope s_NoManner___init__) := ⟨rfl, rfl, rfl, by decide +kernel, rfl, by decide +kernel, by decide +kernel⟩
theorem sc_NoNames___init__ : FnScope ["self", "found"] ["self", "found"] (defScope s_NoNames___init__) := ⟨rfl, rfl, rfl, by decide +kernel, rfl, by decide +kernel, by decide +kernel⟩
theorem sc_NoLine___init__ : FnScope ["self", "found"] ["self", "found"] (defScope s_NoLine___init__) := ⟨rfl, rfl, rfl, by decide +kernel, rfl, by decide +kernel, by decide +kernel⟩
structure Tx (K : PySem.W.Frag) (mg : Str → Option Value) : Prop where
  g__law_cell : mg "_law_cell" = some (.ref (He.ga K "_law_cell"))
  g__law_box : mg "_law_box" = some (.ref (He.ga K "_law_box"))
  g__law_take : mg "_law_take" = some (.ref (He.ga K "_law_take"))
  g__law_thing : mg "_law_thing" = some (.ref (He.ga K "_law_thing"))
  g__law_made : mg "_law_made" = some (.ref (He.ga K "_law_made"))
  g__law_field : mg "_law_field" = some (.ref (He.ga K "_law_field"))
  g__law_kinds : mg "_law_kinds" = some (.ref (He.ga K "_law_kinds"))
  g__law_apart : mg "_law_apart" = some (.ref (He.ga K "_law_apart"))
  g__law_number : mg "_law_number" = some (.ref (He.ga K "_law_number"))
  g__law_text : mg "_law_text" = some (.ref (He.ga K "_law_text"))
  g__law_plain_right : mg "_law_plain_right" = some (.ref (He.ga K "_law_plain_right"))
  g__law_bare_right : mg "_law_bare_right" = some (.ref (He.ga K "_law_bare_right"))
  g_law : mg "law" = some (.ref (He.ga K "law"))
  g_NoNumber : mg "NoNumber" = some (.ref (He.ga K "NoNumber"))
  g_NoName : mg "NoName" = some (.ref (He.ga K "NoName"))
  g_NoValue : mg "NoValue" = some (.ref (He.ga K "NoValue"))
  g_NoFrame : mg "NoFrame" = some (.ref (He.ga K "NoFrame"))
  g_NoWay : mg "NoWay" = some (.ref (He.ga K "NoWay"))
  g_NoCell : mg "NoCell" = some (.ref (He.ga K "NoCell"))
  g_NoHands : mg "NoHands" = some (.ref (He.ga K "NoHands"))
  g_NoDeed : mg "NoDeed" = some (.ref (He.ga K "NoDeed"))
  g_NoChoices : mg "NoChoices" = some (.ref (He.ga K "NoChoices"))
  g_NoMaking : mg "NoMaking" = some (.ref (He.ga K "NoMaking"))
  g_NoManner : mg "NoManner" = some (.ref (He.ga K "NoManner"))
  g_NoNames : mg "NoNames" = some (.ref (He.ga K "NoNames"))
  g_NoLine : mg "NoLine" = some (.ref (He.ga K "NoLine"))
  g_TooMany : mg "TooMany" = some (.ref (He.ga K "TooMany"))
  g_TooWide : mg "TooWide" = some (.ref (He.ga K "TooWide"))
  g_TooLong : mg "TooLong" = some (.ref (He.ga K "TooLong"))
  g_Kept : mg "Kept" = some (.ref (He.ga K "Kept"))
  g_TooDeep : mg "TooDeep" = some (.ref (He.ga K "TooDeep"))
  g_Twice : mg "Twice" = some (.ref (He.ga K "Twice"))
  g_NoLabel : mg "NoLabel" = some (.ref (He.ga K "NoLabel"))
  g_NotStraight : mg "NotStraight" = some (.ref (He.ga K "NotStraight"))
  g_NoText : mg "NoText" = some (.ref (He.ga K "NoText"))
  g_Gone : mg "Gone" = some (.ref (He.ga K "Gone"))
  g_Full : mg "Full" = some (.ref (He.ga K "Full"))
  g_Ground : mg "Ground" = some (.ref (He.ga K "Ground"))
  g_NoHouse : mg "NoHouse" = some (.ref (He.ga K "NoHouse"))
  g_NoProgram : mg "NoProgram" = some (.ref (He.ga K "NoProgram"))
  g_RoomError : mg "RoomError" = some (.ref (He.ga K "RoomError"))
  z_len : mg "len" = none
  z_range : mg "range" = none
  z_repr : mg "repr" = none
  z_isinstance : mg "isinstance" = none
  z_int : mg "int" = none
  z_bool : mg "bool" = none
  z_max : mg "max" = none
  z_min : mg "min" = none
  z_zip : mg "zip" = none
  z_list : mg "list" = none
  z_set : mg "set" = none
  z_str : mg "str" = none
  z_ValueError : mg "ValueError" = none
  x_NoNumber : XC K (He.ga K "NoNumber") ["found"] ∧ XI K (He.ga K "NoNumber") (He.ma K (He.ga K "NoNumber") "__init__")
  x_NoName : XC K (He.ga K "NoName") ["found"] ∧ XI K (He.ga K "NoName") (He.ma K (He.ga K "NoName") "__init__")
  x_NoValue : XC K (He.ga K "NoValue") ["found"] ∧ XI K (He.ga K "NoValue") (He.ma K (He.ga K "NoValue") "__init__")
  x_NoFrame : XC K (He.ga K "NoFrame") ["found"] ∧ XI K (He.ga K "NoFrame") (He.ma K (He.ga K "NoFrame") "__init__")
  x_NoWay : XC K (He.ga K "NoWay") ["found"] ∧ XI K (He.ga K "NoWay") (He.ma K (He.ga K "NoWay") "__init__")
  x_NoCell : XC K (He.ga K "NoCell") ["found"] ∧ XI K (He.ga K "NoCell") (He.ma K (He.ga K "NoCell") "__init__")
  x_NoHands : XC K (He.ga K "NoHands") ["found"] ∧ XI K (He.ga K "NoHands") (He.ma K (He.ga K "NoHands") "__init__")
  x_NoDeed : XC K (He.ga K "NoDeed") ["found"] ∧ XI K (He.ga K "NoDeed") (He.ma K (He.ga K "NoDeed") "__init__")
  x_NoChoices : XC K (He.ga K "NoChoices") ["found"] ∧ XI K (He.ga K "NoChoices") (He.ma K (He.ga K "NoChoices") "__init__")
  x_NoMaking : XC K (He.ga K "NoMaking") ["found"] ∧ XI K (He.ga K "NoMaking") (He.ma K (He.ga K "NoMaking") "__init__")
  x_NoManner : XC K (He.ga K "NoManner") ["found"] ∧ XI K (He.ga K "NoManner") (He.ma K (He.ga K "NoManner") "__init__")
  x_NoNames : XC K (He.ga K "NoNames") ["found"] ∧ XI K (He.ga K "NoNames") (He.ma K (He.ga K "NoNames") "__init__")
  x_NoLine : XC K (He.ga K "NoLine") ["found"] ∧ XI K (He.ga K "NoLine") (He.ma K (He.ga K "NoLine") "__init__")
  x_TooMany : XC K (He.ga K "TooMany") ["many"] ∧ XI K (He.ga K "TooMany") (He.ma K (He.ga K "TooMany") "__init__")
  x_TooWide : XC K (He.ga K "TooWide") ["many"] ∧ XI K (He.ga K "TooWide") (He.ma K (He.ga K "TooWide") "__init__")
  x_TooLong : XC K (He.ga K "TooLong") ["many"] ∧ XI K (He.ga K "TooLong") (He.ma K (He.ga K "TooLong") "__init__")
  x_Kept : XC K (He.ga K "Kept") ["ways"] ∧ XI K (He.ga K "Kept") (He.ma K (He.ga K "Kept") "__init__")
  x_TooDeep : XC K (He.ga K "TooDeep") ["depth"] ∧ XI K (He.ga K "TooDeep") (He.ma K (He.ga K "TooDeep") "__init__")
  x_Twice : XC K (He.ga K "Twice") ["label"] ∧ XI K (He.ga K "Twice") (He.ma K (He.ga K "Twice") "__init__")
  x_NoLabel : XC K (He.ga K "NoLabel") ["label"] ∧ XI K (He.ga K "NoLabel") (He.ma K (He.ga K "NoLabel") "__init__")
  x_NotStraight : XC K (He.ga K "NotStraight") ["number"] ∧ XI K (He.ga K "NotStraight") (He.ma K (He.ga K "NotStraight") "__init__")
  x_NoText : XC K (He.ga K "NoText") ["line"] ∧ XI K (He.ga K "NoText") (He.ma K (He.ga K "NoText") "__init__")
  x_Gone : XC K (He.ga K "Gone") ["found", "by"] ∧ XI K (He.ga K "Gone") (He.ma K (He.ga K "Gone") "__init__")
  x_Full : XC K (He.ga K "Full") ["need", "spare"] ∧ XI K (He.ga K "Full") (He.ma K (He.ga K "Full") "__init__")
  x_Ground : X0 K (He.ga K "Ground")
  x_NoHouse : X0 K (He.ga K "NoHouse")
  x_NoProgram : X0 K (He.ga K "NoProgram")
  x_RoomError : X0 K (He.ga K "RoomError")
  isAll : IsAll K ["NoNumber", "NoName", "NoValue", "NoFrame", "Gone", "Ground", "TooMany", "Full", "NoWay", "NoCell", "NoHands", "Kept", "NoDeed", "TooDeep", "TooWide", "TooLong", "Twice", "NoLabel", "NoChoices", "NoMaking", "NotStraight", "NoText", "NoManner", "NoNames", "NoLine", "NoHouse", "NoProgram"] "RoomError"
  sysm : (K.lookup sysModules).isSome = true
  F__law_cell : ∃ fd, Fun K "_law_cell" "_law_cell" s__law_cell (He.ga K "_law_cell") fd
  F__law_box : ∃ fd, Fun K "_law_box" "_law_box" s__law_box (He.ga K "_law_box") fd
  F__law_take : ∃ fd, Fun K "_law_take" "_law_take" s__law_take (He.ga K "_law_take") fd
  F__law_thing : ∃ fd, Fun K "_law_thing" "_law_thing" s__law_thing (He.ga K "_law_thing") fd
  F__law_made : ∃ fd, Fun K "_law_made" "_law_made" s__law_made (He.ga K "_law_made") fd
  F__law_field : ∃ fd, Fun K "_law_field" "_law_field" s__law_field (He.ga K "_law_field") fd
  F__law_kinds : ∃ fd, Fun K "_law_kinds" "_law_kinds" s__law_kinds (He.ga K "_law_kinds") fd
  F__law_apart : ∃ fd, Fun K "_law_apart" "_law_apart" s__law_apart (He.ga K "_law_apart") fd
  F__law_number : ∃ fd, Fun K "_law_number" "_law_number" s__law_number (He.ga K "_law_number") fd
  F__law_text : ∃ fd, Fun K "_law_text" "_law_text" s__law_text (He.ga K "_law_text") fd
  F__law_plain_right : ∃ fd, Fun K "_law_plain_right" "_law_plain_right" s__law_plain_right (He.ga K "_law_plain_right") fd
  F__law_bare_right : ∃ fd, Fun K "_law_bare_right" "_law_bare_right" s__law_bare_right (He.ga K "_law_bare_right") fd
  F_law : ∃ fd, Fun K "law" "law" s_law (He.ga K "law") fd
  F_NoNumber___init__ : ∃ fd, Fun K "__init__" "NoNumber.__init__" s_NoNumber___init__ (He.ma K (He.ga K "NoNumber") "__init__") fd
  F_NoName___init__ : ∃ fd, Fun K "__init__" "NoName.__init__" s_NoName___init__ (He.ma K (He.ga K "NoName") "__init__") fd
  F_NoValue___init__ : ∃ fd, Fun K "__init__" "NoValue.__init__" s_NoValue___init__ (He.ma K (He.ga K "NoValue") "__init__") fd
  F_NoFrame___init__ : ∃ fd, Fun K "__init__" "NoFrame.__init__" s_NoFrame___init__ (He.ma K (He.ga K "NoFrame") "__init__") fd
  F_Gone___init__ : ∃ fd, Fun K "__init__" "Gone.__init__" s_Gone___init__ (He.ma K (He.ga K "Gone") "__init__") fd
  F_TooMany___init__ : ∃ fd, Fun K "__init__" "TooMany.__init__" s_TooMany___init__ (He.ma K (He.ga K "TooMany") "__init__") fd
  F_Full___init__ : ∃ fd, Fun K "__init__" "Full.__init__" s_Full___init__ (He.ma K (He.ga K "Full") "__init__") fd
  F_NoWay___init__ : ∃ fd, Fun K "__init__" "NoWay.__init__" s_NoWay___init__ (He.ma K (He.ga K "NoWay") "__init__") fd
  F_NoCell___init__ : ∃ fd, Fun K "__init__" "NoCell.__init__" s_NoCell___init__ (He.ma K (He.ga K "NoCell") "__init__") fd
  F_NoHands___init__ : ∃ fd, Fun K "__init__" "NoHands.__init__" s_NoHands___init__ (He.ma K (He.ga K "NoHands") "__init__") fd
  F_Kept___init__ : ∃ fd, Fun K "__init__" "Kept.__init__" s_Kept___init__ (He.ma K (He.ga K "Kept") "__init__") fd
  F_NoDeed___init__ : ∃ fd, Fun K "__init__" "NoDeed.__init__" s_NoDeed___init__ (He.ma K (He.ga K "NoDeed") "__init__") fd
  F_TooDeep___init__ : ∃ fd, Fun K "__init__" "TooDeep.__init__" s_TooDeep___init__ (He.ma K (He.ga K "TooDeep") "__init__") fd
  F_TooWide___init__ : ∃ fd, Fun K "__init__" "TooWide.__init__" s_TooWide___init__ (He.ma K (He.ga K "TooWide") "__init__") fd
  F_TooLong___init__ : ∃ fd, Fun K "__init__" "TooLong.__init__" s_TooLong___init__ (He.ma K (He.ga K "TooLong") "__init__") fd
  F_Twice___init__ : ∃ fd, Fun K "__init__" "Twice.__init__" s_Twice___init__ (He.ma K (He.ga K "Twice") "__init__") fd
  F_NoLabel___init__ : ∃ fd, Fun K "__init__" "NoLabel.__init__" s_NoLabel___init__ (He.ma K (He.ga K "NoLabel") "__init__") fd
  F_NoChoices___init__ : ∃ fd, Fun K "__init__" "NoChoices.__init__" s_NoChoices___init__ (He.ma K (He.ga K "NoChoices") "__init__") fd
  F_NoMaking___init__ : ∃ fd, Fun K "__init__" "NoMaking.__init__" s_NoMaking___init__ (He.ma K (He.ga K "NoMaking") "__init__") fd
  F_NotStraight___init__ : ∃ fd, Fun K "__init__" "NotStraight.__init__" s_NotStraight___init__ (He.ma K (He.ga K "NotStraight") "__init__") fd
  F_NoText___init__ : ∃ fd, Fun K "__init__" "NoText.__init__" s_NoText___init__ (He.ma K (He.ga K "NoText") "__init__") fd
  F_NoManner___init__ : ∃ fd, Fun K "__init__" "NoManner.__init__" s_NoManner___init__ (He.ma K (He.ga K "NoManner") "__init__") fd
  F_NoNames___init__ : ∃ fd, Fun K "__init__" "NoNames.__init__" s_NoNames___init__ (He.ma K (He.ga K "NoNames") "__init__") fd
  F_NoLine___init__ : ∃ fd, Fun K "__init__" "NoLine.__init__" s_NoLine___init__ (He.ma K (He.ga K "NoLine") "__init__") fd
def d__law_cell : He.DefD := ⟨("_law_cell", none), "_law_cell", "_law_cell", defArgs s__law_cell, defBody s__law_cell, defScope s__law_cell, [], []⟩
def d__law_box : He.DefD := ⟨("_law_box", none), "_law_box", "_law_box", defArgs s__law_box, defBody s__law_box, defScope s__law_box, [], []⟩
def d__law_take : He.DefD := ⟨("_law_take", none), "_law_take", "_law_take", defArgs s__law_take, defBody s__law_take, defScope s__law_take, [], []⟩
def d__law_thing : He.DefD := ⟨("_law_thing", none), "_law_thing", "_law_thing", defArgs s__law_thing, defBody s__law_thing, defScope s__law_thing, [], []⟩
def d__law_made : He.DefD := ⟨("_law_made", none), "_law_made", "_law_made", defArgs s__law_made, defBody s__law_made, defScope s__law_made, [], []⟩
def d__law_field : He.DefD := ⟨("_law_field", none), "_law_field", "_law_field", defArgs s__law_field, defBody s__law_field, defScope s__law_field, [], []⟩
def d__law_kinds : He.DefD := ⟨("_law_kinds", none), "_law_kinds", "_law_kinds", defArgs s__law_kinds, defBody s__law_kinds, defScope s__law_kinds, [], []⟩
def d__law_apart : He.DefD := ⟨("_law_apart", none), "_law_apart", "_law_apart", defArgs s__law_apart, defBody s__law_apart, defScope s__law_apart, [], []⟩
def d__law_number : He.DefD := ⟨("_law_number", none), "_law_number", "_law_number", defArgs s__law_number, defBody s__law_number, defScope s__law_number, [], []⟩
def d__law_text : He.DefD := ⟨("_law_text", none), "_law_text", "_law_text", defArgs s__law_text, defBody s__law_text, defScope s__law_text, [], []⟩
def d__law_plain_right : He.DefD := ⟨("_law_plain_right", none), "_law_plain_right", "_law_plain_right", defArgs s__law_plain_right, defBody s__law_plain_right, defScope s__law_plain_right, [], []⟩
def d__law_bare_right : He.DefD := ⟨("_law_bare_right", none), "_law_bare_right", "_law_bare_right", defArgs s__law_bare_right, defBody s__law_bare_right, defScope s__law_bare_right, [], []⟩
def d_law : He.DefD := ⟨("law", none), "law", "law", defArgs s_law, defBody s_law, defScope s_law, [], []⟩
def d_NoNumber___init__ : He.DefD := ⟨("NoNumber", some "__init__"), "__init__", "NoNumber.__init__", defArgs s_NoNumber___init__, defBody s_NoNumber___init__, defScope s_NoNumber___init__, [], []⟩
def d_NoName___init__ : He.DefD := ⟨("NoName", some "__init__"), "__init__", "NoName.__init__", defArgs s_NoName___init__, defBody s_NoName___init__, defScope s_NoName___init__, [], []⟩
def d_NoValue___init__ : He.DefD := ⟨("NoValue", some "__init__"), "__init__", "NoValue.__init__", defArgs s_NoValue___init__, defBody s_NoValue___init__, defScope s_NoValue___init__, [], []⟩
def d_NoFrame___init__ : He.DefD := ⟨("NoFrame", some "__init__"), "__init__", "NoFrame.__init__", defArgs s_NoFrame___init__, defBody s_NoFrame___init__, defScope s_NoFrame___init__, [], []⟩
def d_Gone___init__ : He.DefD := ⟨("Gone", some "__init__"), "__init__", "Gone.__init__", defArgs s_Gone___init__, defBody s_Gone___init__, defScope s_Gone___init__, [], []⟩
def d_TooMany___init__ : He.DefD := ⟨("TooMany", some "__init__"), "__init__", "TooMany.__init__", defArgs s_TooMany___init__, defBody s_TooMany___init__, defScope s_TooMany___init__, [], []⟩
def d_Full___init__ : He.DefD := ⟨("Full", some "__init__"), "__init__", "Full.__init__", defArgs s_Full___init__, defBody s_Full___init__, defScope s_Full___init__, [], []⟩
def d_NoWay___init__ : He.DefD := ⟨("NoWay", some "__init__"), "__init__", "NoWay.__init__", defArgs s_NoWay___init__, defBody s_NoWay___init__, defScope s_NoWay___init__, [], []⟩
def d_NoCell___init__ : He.DefD := ⟨("NoCell", some "__init__"), "__init__", "NoCell.__init__", defArgs s_NoCell___init__, defBody s_NoCell___init__, defScope s_NoCell___init__, [], []⟩
def d_NoHands___init__ : He.DefD := ⟨("NoHands", some "__init__"), "__init__", "NoHands.__init__", defArgs s_NoHands___init__, defBody s_NoHands___init__, defScope s_NoHands___init__, [], []⟩
def d_Kept___init__ : He.DefD := ⟨("Kept", some "__init__"), "__init__", "Kept.__init__", defArgs s_Kept___init__, defBody s_Kept___init__, defScope s_Kept___init__, [], []⟩
def d_NoDeed___init__ : He.DefD := ⟨("NoDeed", some "__init__"), "__init__", "NoDeed.__init__", defArgs s_NoDeed___init__, defBody s_NoDeed___init__, defScope s_NoDeed___init__, [], []⟩
def d_TooDeep___init__ : He.DefD := ⟨("TooDeep", some "__init__"), "__init__", "TooDeep.__init__", defArgs s_TooDeep___init__, defBody s_TooDeep___init__, defScope s_TooDeep___init__, [], []⟩
def d_TooWide___init__ : He.DefD := ⟨("TooWide", some "__init__"), "__init__", "TooWide.__init__", defArgs s_TooWide___init__, defBody s_TooWide___init__, defScope s_TooWide___init__, [], []⟩
def d_TooLong___init__ : He.DefD := ⟨("TooLong", some "__init__"), "__init__", "TooLong.__init__", defArgs s_TooLong___init__, defBody s_TooLong___init__, defScope s_TooLong___init__, [], []⟩
def d_Twice___init__ : He.DefD := ⟨("Twice", some "__init__"), "__init__", "Twice.__init__", defArgs s_Twice___init__, defBody s_Twice___init__, defScope s_Twice___init__, [], []⟩
def d_NoLabel___init__ : He.DefD := ⟨("NoLabel", some "__init__"), "__init__", "NoLabel.__init__", defArgs s_NoLabel___init__, defBody s_NoLabel___init__, defScope s_NoLabel___init__, [], []⟩
def d_NoChoices___init__ : He.DefD := ⟨("NoChoices", some "__init__"), "__init__", "NoChoices.__init__", defArgs s_NoChoices___init__, defBody s_NoChoices___init__, defScope s_NoChoices___init__, [], []⟩
def d_NoMaking___init__ : He.DefD := ⟨("NoMaking", some "__init__"), "__init__", "NoMaking.__init__", defArgs s_NoMaking___init__, defBody s_NoMaking___init__, defScope s_NoMaking___init__, [], []⟩
def d_NotStraight___init__ : He.DefD := ⟨("NotStraight", some "__init__"), "__init__", "NotStraight.__init__", defArgs s_NotStraight___init__, defBody s_NotStraight___init__, defScope s_NotStraight___init__, [], []⟩
def d_NoText___init__ : He.DefD := ⟨("NoText", some "__init__"), "__init__", "NoText.__init__", defArgs s_NoText___init__, defBody s_NoText___init__, defScope s_NoText___init__, [], []⟩
def d_NoManner___init__ : He.DefD := ⟨("NoManner", some "__init__"), "__init__", "NoManner.__init__", defArgs s_NoManner___init__, defBody s_NoManner___init__, defScope s_NoManner___init__, [], []⟩
def d_NoNames___init__ : He.DefD := ⟨("NoNames", some "__init__"), "__init__", "NoNames.__init__", defArgs s_NoNames___init__, defBody s_NoNames___init__, defScope s_NoNames___init__, [], []⟩
def d_NoLine___init__ : He.DefD := ⟨("NoLine", some "__init__"), "__init__", "NoLine.__init__", defArgs s_NoLine___init__, defBody s_NoLine___init__, defScope s_NoLine___init__, [], []⟩
def fnL : List He.DefD := [d__law_cell, d__law_box, d__law_take, d__law_thing, d__law_made, d__law_field, d__law_kinds, d__law_apart, d__law_number, d__law_text, d__law_plain_right, d__law_bare_right, d_law, d_NoNumber___init__, d_NoName___init__, d_NoValue___init__, d_NoFrame___init__, d_Gone___init__, d_TooMany___init__, d_Full___init__, d_NoWay___init__, d_NoCell___init__, d_NoHands___init__, d_Kept___init__, d_NoDeed___init__, d_TooDeep___init__, d_TooWide___init__, d_TooLong___init__, d_Twice___init__, d_NoLabel___init__, d_NoChoices___init__, d_NoMaking___init__, d_NotStraight___init__, d_NoText___init__, d_NoManner___init__, d_NoNames___init__, d_NoLine___init__]
def faL : List He.Fa := [.glo "_law_cell", .glo "_law_box", .glo "_law_take", .glo "_law_thing", .glo "_law_made", .glo "_law_field", .glo "_law_kinds", .glo "_law_apart", .glo "_law_number", .glo "_law_text", .glo "_law_plain_right", .glo "_law_bare_right", .glo "law", .glo "NoNumber", .glo "NoName", .glo "NoValue", .glo "NoFrame", .glo "NoWay", .glo "NoCell", .glo "NoHands", .glo "NoDeed", .glo "NoChoices", .glo "NoMaking", .glo "NoManner", .glo "NoNames", .glo "NoLine", .glo "TooMany", .glo "TooWide", .glo "TooLong", .glo "Kept", .glo "TooDeep", .glo "Twice", .glo "NoLabel", .glo "NotStraight", .glo "NoText", .glo "Gone", .glo "Full", .glo "Ground", .glo "NoHouse", .glo "NoProgram", .glo "RoomError", .free "len", .free "range", .free "repr", .free "isinstance", .free "int", .free "bool", .free "max", .free "min", .free "zip", .free "list", .free "set", .free "str", .free "ValueError"]
def exL : List Xa := [.oex "NoNumber" ["found"], .oex "NoName" ["found"], .oex "NoValue" ["found"], .oex "NoFrame" ["found"], .oex "NoWay" ["found"], .oex "NoCell" ["found"], .oex "NoHands" ["found"], .oex "NoDeed" ["found"], .oex "NoChoices" ["found"], .oex "NoMaking" ["found"], .oex "NoManner" ["found"], .oex "NoNames" ["found"], .oex "NoLine" ["found"], .oex "TooMany" ["many"], .oex "TooWide" ["many"], .oex "TooLong" ["many"], .oex "Kept" ["ways"], .oex "TooDeep" ["depth"], .oex "Twice" ["label"], .oex "NoLabel" ["label"], .oex "NotStraight" ["number"], .oex "NoText" ["line"], .oex "Gone" ["found", "by"], .oex "Full" ["need", "spare"], .zer "Ground", .zer "NoHouse", .zer "NoProgram", .zer "RoomError", .prop fun K => isAllB K ["NoNumber", "NoName", "NoValue", "NoFrame", "Gone", "Ground", "TooMany", "Full", "NoWay", "NoCell", "NoHands", "Kept", "NoDeed", "TooDeep", "TooWide", "TooLong", "Twice", "NoLabel", "NoChoices", "NoMaking", "NotStraight", "NoText", "NoManner", "NoNames", "NoLine", "NoHouse", "NoProgram"] "RoomError", .prop fun K => (K.lookup sysModules).isSome]
def exF (K : PySem.W.Frag) : Bool := exL.all fun x => x.ok K
theorem tx_of {K : PySem.W.Frag} {h : Heap} {mg : Str → Option Value} (X : K.In h) (G : h.Ns mainGlobals mg) (c : He.SaysD faL fnL K) (hx : (exL.all fun x => x.ok K) = true) : Tx K mg := ⟨
(He.glo_ok X G (c.fact 0 (f := .glo "_law_cell") rfl)),
  (He.glo_ok X G (c.fact 1 (f := .glo "_law_box") rfl)),
  (He.glo_ok X G (c.fact 2 (f := .glo "_law_take") rfl)),
  (He.glo_ok X G (c.fact 3 (f := .glo "_law_thing") rfl)),
  (He.glo_ok X G (c.fact 4 (f := .glo "_law_made") rfl)),
  (He.glo_ok X G (c.fact 5 (f := .glo "_law_field") rfl)),
  (He.glo_ok X G (c.fact 6 (f := .glo "_law_kinds") rfl)),
  (He.glo_ok X G (c.fact 7 (f := .glo "_law_apart") rfl)),
  (He.glo_ok X G (c.fact 8 (f := .glo "_law_number") rfl)),
  (He.glo_ok X G (c.fact 9 (f := .glo "_law_text") rfl)),
  (He.glo_ok X G (c.fact 10 (f := .glo "_law_plain_right") rfl)),
  (He.glo_ok X G (c.fact 11 (f := .glo "_law_bare_right") rfl)),
  (He.glo_ok X G (c.fact 12 (f := .glo "law") rfl)),
  (He.glo_ok X G (c.fact 13 (f := .glo "NoNumber") rfl)),
  (He.glo_ok X G (c.fact 14 (f := .glo "NoName") rfl)),
  (He.glo_ok X G (c.fact 15 (f := .glo "NoValue") rfl)),
  (He.glo_ok X G (c.fact 16 (f := .glo "NoFrame") rfl)),
  (He.glo_ok X G (c.fact 17 (f := .glo "NoWay") rfl)),
  (He.glo_ok X G (c.fact 18 (f := .glo "NoCell") rfl)),
  (He.glo_ok X G (c.fact 19 (f := .glo "NoHands") rfl)),
  (He.glo_ok X G (c.fact 20 (f := .glo "NoDeed") rfl)),
  (He.glo_ok X G (c.fact 21 (f := .glo "NoChoices") rfl)),
  (He.glo_ok X G (c.fact 22 (f := .glo "NoMaking") rfl)),
  (He.glo_ok X G (c.fact 23 (f := .glo "NoManner") rfl)),
  (He.glo_ok X G (c.fact 24 (f := .glo "NoNames") rfl)),
  (He.glo_ok X G (c.fact 25 (f := .glo "NoLine") rfl)),
  (He.glo_ok X G (c.fact 26 (f := .glo "TooMany") rfl)),
  (He.glo_ok X G (c.fact 27 (f := .glo "TooWide") rfl)),
  (He.glo_ok X G (c.fact 28 (f := .glo "TooLong") rfl)),
  (He.glo_ok X G (c.fact 29 (f := .glo "Kept") rfl)),
  (He.glo_ok X G (c.fact 30 (f := .glo "TooDeep") rfl)),
  (He.glo_ok X G (c.fact 31 (f := .glo "Twice") rfl)),
  (He.glo_ok X G (c.fact 32 (f := .glo "NoLabel") rfl)),
  (He.glo_ok X G (c.fact 33 (f := .glo "NotStraight") rfl)),
  (He.glo_ok X G (c.fact 34 (f := .glo "NoText") rfl)),
  (He.glo_ok X G (c.fact 35 (f := .glo "Gone") rfl)),
  (He.glo_ok X G (c.fact 36 (f := .glo "Full") rfl)),
  (He.glo_ok X G (c.fact 37 (f := .glo "Ground") rfl)),
  (He.glo_ok X G (c.fact 38 (f := .glo "NoHouse") rfl)),
  (He.glo_ok X G (c.fact 39 (f := .glo "NoProgram") rfl)),
  (He.glo_ok X G (c.fact 40 (f := .glo "RoomError") rfl)),
  (He.free_ok X G (c.fact 41 (f := .free "len") rfl)),
  (He.free_ok X G (c.fact 42 (f := .free "range") rfl)),
  (He.free_ok X G (c.fact 43 (f := .free "repr") rfl)),
  (He.free_ok X G (c.fact 44 (f := .free "isinstance") rfl)),
  (He.free_ok X G (c.fact 45 (f := .free "int") rfl)),
  (He.free_ok X G (c.fact 46 (f := .free "bool") rfl)),
  (He.free_ok X G (c.fact 47 (f := .free "max") rfl)),
  (He.free_ok X G (c.fact 48 (f := .free "min") rfl)),
  (He.free_ok X G (c.fact 49 (f := .free "zip") rfl)),
  (He.free_ok X G (c.fact 50 (f := .free "list") rfl)),
  (He.free_ok X G (c.fact 51 (f := .free "set") rfl)),
  (He.free_ok X G (c.fact 52 (f := .free "str") rfl)),
  (He.free_ok X G (c.fact 53 (f := .free "ValueError") rfl)),
  (oex_ok (c := "NoNumber") (fs := ["found"]) (xa_at hx 0 rfl)),
  (oex_ok (c := "NoName") (fs := ["found"]) (xa_at hx 1 rfl)),
  (oex_ok (c := "NoValue") (fs := ["found"]) (xa_at hx 2 rfl)),
  (oex_ok (c := "NoFrame") (fs := ["found"]) (xa_at hx 3 rfl)),
  (oex_ok (c := "NoWay") (fs := ["found"]) (xa_at hx 4 rfl)),
  (oex_ok (c := "NoCell") (fs := ["found"]) (xa_at hx 5 rfl)),
  (oex_ok (c := "NoHands") (fs := ["found"]) (xa_at hx 6 rfl)),
  (oex_ok (c := "NoDeed") (fs := ["found"]) (xa_at hx 7 rfl)),
  (oex_ok (c := "NoChoices") (fs := ["found"]) (xa_at hx 8 rfl)),
  (oex_ok (c := "NoMaking") (fs := ["found"]) (xa_at hx 9 rfl)),
  (oex_ok (c := "NoManner") (fs := ["found"]) (xa_at hx 10 rfl)),
  (oex_ok (c := "NoNames") (fs := ["found"]) (xa_at hx 11 rfl)),
  (oex_ok (c := "NoLine") (fs := ["found"]) (xa_at hx 12 rfl)),
  (oex_ok (c := "TooMany") (fs := ["many"]) (xa_at hx 13 rfl)),
  (oex_ok (c := "TooWide") (fs := ["many"]) (xa_at hx 14 rfl)),
  (oex_ok (c := "TooLong") (fs := ["many"]) (xa_at hx 15 rfl)),
  (oex_ok (c := "Kept") (fs := ["ways"]) (xa_at hx 16 rfl)),
  (oex_ok (c := "TooDeep") (fs := ["depth"]) (xa_at hx 17 rfl)),
  (oex_ok (c := "Twice") (fs := ["label"]) (xa_at hx 18 rfl)),
  (oex_ok (c := "NoLabel") (fs := ["label"]) (xa_at hx 19 rfl)),
  (oex_ok (c := "NotStraight") (fs := ["number"]) (xa_at hx 20 rfl)),
  (oex_ok (c := "NoText") (fs := ["line"]) (xa_at hx 21 rfl)),
  (oex_ok (c := "Gone") (fs := ["found", "by"]) (xa_at hx 22 rfl)),
  (oex_ok (c := "Full") (fs := ["need", "spare"]) (xa_at hx 23 rfl)),
  (zer_ok (c := "Ground") (xa_at hx 24 rfl)),
  (zer_ok (c := "NoHouse") (xa_at hx 25 rfl)),
  (zer_ok (c := "NoProgram") (xa_at hx 26 rfl)),
  (zer_ok (c := "RoomError") (xa_at hx 27 rfl)),
  (isAll_ok (xa_at hx 28 rfl)),
  (xa_at hx 29 rfl),
  (let ⟨fd, h⟩ := c.def_ 0 (d := d__law_cell) rfl; ⟨fd, FG.toFun (st := s__law_cell) h⟩),
  (let ⟨fd, h⟩ := c.def_ 1 (d := d__law_box) rfl; ⟨fd, FG.toFun (st := s__law_box) h⟩),
  (let ⟨fd, h⟩ := c.def_ 2 (d := d__law_take) rfl; ⟨fd, FG.toFun (st := s__law_take) h⟩),
  (let ⟨fd, h⟩ := c.def_ 3 (d := d__law_thing) rfl; ⟨fd, FG.toFun (st := s__law_thing) h⟩),
  (let ⟨fd, h⟩ := c.def_ 4 (d := d__law_made) rfl; ⟨fd, FG.toFun (st := s__law_made) h⟩),
  (let ⟨fd, h⟩ := c.def_ 5 (d := d__law_field) rfl; ⟨fd, FG.toFun (st := s__law_field) h⟩),
  (let ⟨fd, h⟩ := c.def_ 6 (d := d__law_kinds) rfl; ⟨fd, FG.toFun (st := s__law_kinds) h⟩),
  (let ⟨fd, h⟩ := c.def_ 7 (d := d__law_apart) rfl; ⟨fd, FG.toFun (st := s__law_apart) h⟩),
  (let ⟨fd, h⟩ := c.def_ 8 (d := d__law_number) rfl; ⟨fd, FG.toFun (st := s__law_number) h⟩),
  (let ⟨fd, h⟩ := c.def_ 9 (d := d__law_text) rfl; ⟨fd, FG.toFun (st := s__law_text) h⟩),
  (let ⟨fd, h⟩ := c.def_ 10 (d := d__law_plain_right) rfl; ⟨fd, FG.toFun (st := s__law_plain_right) h⟩),
  (let ⟨fd, h⟩ := c.def_ 11 (d := d__law_bare_right) rfl; ⟨fd, FG.toFun (st := s__law_bare_right) h⟩),
  (let ⟨fd, h⟩ := c.def_ 12 (d := d_law) rfl; ⟨fd, FG.toFun (st := s_law) h⟩),
  (let ⟨fd, h⟩ := c.def_ 13 (d := d_NoNumber___init__) rfl; ⟨fd, FG.toFun (st := s_NoNumber___init__) h⟩),
  (let ⟨fd, h⟩ := c.def_ 14 (d := d_NoName___init__) rfl; ⟨fd, FG.toFun (st := s_NoName___init__) h⟩),
  (let ⟨fd, h⟩ := c.def_ 15 (d := d_NoValue___init__) rfl; ⟨fd, FG.toFun (st := s_NoValue___init__) h⟩),
  (let ⟨fd, h⟩ := c.def_ 16 (d := d_NoFrame___init__) rfl; ⟨fd, FG.toFun (st := s_NoFrame___init__) h⟩),
  (let ⟨fd, h⟩ := c.def_ 17 (d := d_Gone___init__) rfl; ⟨fd, FG.toFun (st := s_Gone___init__) h⟩),
  (let ⟨fd, h⟩ := c.def_ 18 (d := d_TooMany___init__) rfl; ⟨fd, FG.toFun (st := s_TooMany___init__) h⟩),
  (let ⟨fd, h⟩ := c.def_ 19 (d := d_Full___init__) rfl; ⟨fd, FG.toFun (st := s_Full___init__) h⟩),
  (let ⟨fd, h⟩ := c.def_ 20 (d := d_NoWay___init__) rfl; ⟨fd, FG.toFun (st := s_NoWay___init__) h⟩),
  (let ⟨fd, h⟩ := c.def_ 21 (d := d_NoCell___init__) rfl; ⟨fd, FG.toFun (st := s_NoCell___init__) h⟩),
  (let ⟨fd, h⟩ := c.def_ 22 (d := d_NoHands___init__) rfl; ⟨fd, FG.toFun (st := s_NoHands___init__) h⟩),
  (let ⟨fd, h⟩ := c.def_ 23 (d := d_Kept___init__) rfl; ⟨fd, FG.toFun (st := s_Kept___init__) h⟩),
  (let ⟨fd, h⟩ := c.def_ 24 (d := d_NoDeed___init__) rfl; ⟨fd, FG.toFun (st := s_NoDeed___init__) h⟩),
  (let ⟨fd, h⟩ := c.def_ 25 (d := d_TooDeep___init__) rfl; ⟨fd, FG.toFun (st := s_TooDeep___init__) h⟩),
  (let ⟨fd, h⟩ := c.def_ 26 (d := d_TooWide___init__) rfl; ⟨fd, FG.toFun (st := s_TooWide___init__) h⟩),
  (let ⟨fd, h⟩ := c.def_ 27 (d := d_TooLong___init__) rfl; ⟨fd, FG.toFun (st := s_TooLong___init__) h⟩),
  (let ⟨fd, h⟩ := c.def_ 28 (d := d_Twice___init__) rfl; ⟨fd, FG.toFun (st := s_Twice___init__) h⟩),
  (let ⟨fd, h⟩ := c.def_ 29 (d := d_NoLabel___init__) rfl; ⟨fd, FG.toFun (st := s_NoLabel___init__) h⟩),
  (let ⟨fd, h⟩ := c.def_ 30 (d := d_NoChoices___init__) rfl; ⟨fd, FG.toFun (st := s_NoChoices___init__) h⟩),
  (let ⟨fd, h⟩ := c.def_ 31 (d := d_NoMaking___init__) rfl; ⟨fd, FG.toFun (st := s_NoMaking___init__) h⟩),
  (let ⟨fd, h⟩ := c.def_ 32 (d := d_NotStraight___init__) rfl; ⟨fd, FG.toFun (st := s_NotStraight___init__) h⟩),
  (let ⟨fd, h⟩ := c.def_ 33 (d := d_NoText___init__) rfl; ⟨fd, FG.toFun (st := s_NoText___init__) h⟩),
  (let ⟨fd, h⟩ := c.def_ 34 (d := d_NoManner___init__) rfl; ⟨fd, FG.toFun (st := s_NoManner___init__) h⟩),
  (let ⟨fd, h⟩ := c.def_ 35 (d := d_NoNames___init__) rfl; ⟨fd, FG.toFun (st := s_NoNames___init__) h⟩),
  (let ⟨fd, h⟩ := c.def_ 36 (d := d_NoLine___init__) rfl; ⟨fd, FG.toFun (st := s_NoLine___init__) h⟩)⟩
end Lw
namespace Lw
open PySem PySem.Spec L2 FG
open PyProof.Rows hiding St
section
variable {P : Program} {w : World} {K : PySem.W.Frag} {mg : Str → Option Value} {base : Heap}
theorem rai_NoNumber (T : Tx K mg) : Rai P w K mg base "NoNumber" (He.ga K "NoNumber") ["found"] := by
  refine Rai.of T.x_NoNumber T.g_NoNumber T.F_NoNumber___init__ (fun F => F.binds (ps := ["self", "found"]) fun _ _ _ _ _ _ us hl => match us, hl with | [_, _], _ => rfl) fun F => FnG.of F sc_NoNumber___init__ (fun vs H Q E h => ?_) (fun cdv A outer s H vs Q E hr h => ?_) (ps := ["self", "found"])
  · obtain ⟨a, C, ys, rfl, hl, _⟩ := h; simpa using hl
  · obtain ⟨a, C, ys, rfl, hl, xc, ea, q⟩ := h
    match ys, hl with
    | [y], _ =>
      refine ⟨_, pss_one (ps_ost (pv 0) (pv 1)), ?_⟩
      refine ⟨_, rfl, _, rfl, a, C, rfl, xc.o, xc.no _ (by decide +kernel), .inl ⟨ea, fun d hd nd => ?_⟩⟩
      exact q d _ hd nd upd_same ((upd_ne nd).trans upd_same) fun b h1 h2 => (upd_ne h1).trans (upd_ne h2)
theorem rai_NoName (T : Tx K mg) : Rai P w K mg base "NoName" (He.ga K "NoName") ["found"] := by
  refine Rai.of T.x_NoName T.g_NoName T.F_NoName___init__ (fun F => F.binds (ps := ["self", "found"]) fun _ _ _ _ _ _ us hl => match us, hl with | [_, _], _ => rfl) fun F => FnG.of F sc_NoName___init__ (fun vs H Q E h => ?_) (fun cdv A outer s H vs Q E hr h => ?_) (ps := ["self", "found"])
  · obtain ⟨a, C, ys, rfl, hl, _⟩ := h; simpa using hl
  · obtain ⟨a, C, ys, rfl, hl, xc, ea, q⟩ := h
    match ys, hl with
    | [y], _ =>
      refine ⟨_, pss_one (ps_ost (pv 0) (pv 1)), ?_⟩
      refine ⟨_, rfl, _, rfl, a, C, rfl, xc.o, xc.no _ (by decide +kernel), .inl ⟨ea, fun d hd nd => ?_⟩⟩
      exact q d _ hd nd upd_same ((upd_ne nd).trans upd_same) fun b h1 h2 => (upd_ne h1).trans (upd_ne h2)
theorem rai_NoValue (T : Tx K mg) : Rai P w K mg base "NoValue" (He.ga K "NoValue") ["found"] := by
  refine Rai.of T.x_NoValue T.g_NoValue T.F_NoValue___init__ (fun F => F.binds (ps := ["self", "found"]) fun _ _ _ _ _ _ us hl => match us, hl with | [_, _], _ => rfl) fun F => FnG.of F sc_NoValue___init__ (fun vs H Q E h => ?_) (fun cdv A outer s H vs Q E hr h => ?_) (ps := ["self", "found"])
  · obtain ⟨a, C, ys, rfl, hl, _⟩ := h; simpa using hl
  · obtain ⟨a, C, ys, rfl, hl, xc, ea, q⟩ := h
    match ys, hl with
    | [y], _ =>
      refine ⟨_, pss_one (ps_ost (pv 0) (pv 1)), ?_⟩
      refine ⟨_, rfl, _, rfl, a, C, rfl, xc.o, xc.no _ (by decide +kernel), .inl ⟨ea, fun d hd nd => ?_⟩⟩
      exact q d _ hd nd upd_same ((upd_ne nd).trans upd_same) fun b h1 h2 => (upd_ne h1).trans (upd_ne h2)
theorem rai_NoFrame (T : Tx K mg) : Rai P w K mg base "NoFrame" (He.ga K "NoFrame") ["found"] := by
  refine Rai.of T.x_NoFrame T.g_NoFrame T.F_NoFrame___init__ (fun F => F.binds (ps := ["self", "found"]) fun _ _ _ _ _ _ us hl => match us, hl with | [_, _], _ => rfl) fun F => FnG.of F sc_NoFrame___init__ (fun vs H Q E h => ?_) (fun cdv A outer s H vs Q E hr h => ?_) (ps := ["self", "found"])
  · obtain ⟨a, C, ys, rfl, hl, _⟩ := h; simpa using hl
  · obtain ⟨a, C, ys, rfl, hl, xc, ea, q⟩ := h
    match ys, hl with
    | [y], _ =>
      refine ⟨_, pss_one (ps_ost (pv 0) (pv 1)), ?_⟩
      refine ⟨_, rfl, _, rfl, a, C, rfl, xc.o, xc.no _ (by decide +kernel), .inl ⟨ea, fun d hd nd => ?_⟩⟩
      exact q d _ hd nd upd_same ((upd_ne nd).trans upd_same) fun b h1 h2 => (upd_ne h1).trans (upd_ne h2)
theorem rai_NoWay (T : Tx K mg) : Rai P w K mg base "NoWay" (He.ga K "NoWay") ["found"] := by
  refine Rai.of T.x_NoWay T.g_NoWay T.F_NoWay___init__ (fun F => F.binds (ps := ["self", "found"]) fun _ _ _ _ _ _ us hl => match us, hl with | [_, _], _ => rfl) fun F => FnG.of F sc_NoWay___init__ (fun vs H Q E h => ?_) (fun cdv A outer s H vs Q E hr h => ?_) (ps := ["self", "found"])
  · obtain ⟨a, C, ys, rfl, hl, _⟩ := h; simpa using hl
  · obtain ⟨a, C, ys, rfl, hl, xc, ea, q⟩ := h
    match ys, hl with
    | [y], _ =>
      refine ⟨_, pss_one (ps_ost (pv 0) (pv 1)), ?_⟩
      refine ⟨_, rfl, _, rfl, a, C, rfl, xc.o, xc.no _ (by decide +kernel), .inl ⟨ea, fun d hd nd => ?_⟩⟩
      exact q d _ hd nd upd_same ((upd_ne nd).trans upd_same) fun b h1 h2 => (upd_ne h1).trans (upd_ne h2)
theorem rai_NoCell (T : Tx K mg) : Rai P w K mg base "NoCell" (He.ga K "NoCell") ["found"] := by
  refine Rai.of T.x_NoCell T.g_NoCell T.F_NoCell___init__ (fun F => F.binds (ps := ["self", "found"]) fun _ _ _ _ _ _ us hl => match us, hl with | [_, _], _ => rfl) fun F => FnG.of F sc_NoCell___init__ (fun vs H Q E h => ?_) (fun cdv A outer s H vs Q E hr h => ?_) (ps := ["self", "found"])
  · obtain ⟨a, C, ys, rfl, hl, _⟩ := h; simpa using hl
  · obtain ⟨a, C, ys, rfl, hl, xc, ea, q⟩ := h
    match ys, hl with
    | [y], _ =>
      refine ⟨_, pss_one (ps_ost (pv 0) (pv 1)), ?_⟩
      refine ⟨_, rfl, _, rfl, a, C, rfl, xc.o, xc.no _ (by decide +kernel), .inl ⟨ea, fun d hd nd => ?_⟩⟩
      exact q d _ hd nd upd_same ((upd_ne nd).trans upd_same) fun b h1 h2 => (upd_ne h1).trans (upd_ne h2)
theorem rai_NoHands (T : Tx K mg) : Rai P w K mg base "NoHands" (He.ga K "NoHands") ["found"] := by
  refine Rai.of T.x_NoHands T.g_NoHands T.F_NoHands___init__ (fun F => F.binds (ps := ["self", "found"]) fun _ _ _ _ _ _ us hl => match us, hl with | [_, _], _ => rfl) fun F => FnG.of F sc_NoHands___init__ (fun vs H Q E h => ?_) (fun cdv A outer s H vs Q E hr h => ?_) (ps := ["self", "found"])
  · obtain ⟨a, C, ys, rfl, hl, _⟩ := h; simpa using hl
  · obtain ⟨a, C, ys, rfl, hl, xc, ea, q⟩ := h
    match ys, hl with
    | [y], _ =>
      refine ⟨_, pss_one (ps_ost (pv 0) (pv 1)), ?_⟩
      refine ⟨_, rfl, _, rfl, a, C, rfl, xc.o, xc.no _ (by decide +kernel), .inl ⟨ea, fun d hd nd => ?_⟩⟩
      exact q d _ hd nd upd_same ((upd_ne nd).trans upd_same) fun b h1 h2 => (upd_ne h1).trans (upd_ne h2)
theorem rai_NoDeed (T : Tx K mg) : Rai P w K mg base "NoDeed" (He.ga K "NoDeed") ["found"] := by
  refine Rai.of T.x_NoDeed T.g_NoDeed T.F_NoDeed___init__ (fun F => F.binds (ps := ["self", "found"]) fun _ _ _ _ _ _ us hl => match us, hl with | [_, _], _ => rfl) fun F => FnG.of F sc_NoDeed___init__ (fun vs H Q E h => ?_) (fun cdv A outer s H vs Q E hr h => ?_) (ps := ["self", "found"])
  · obtain ⟨a, C, ys, rfl, hl, _⟩ := h; simpa using hl
  · obtain ⟨a, C, ys, rfl, hl, xc, ea, q⟩ := h
    match ys, hl with
    | [y], _ =>
      refine ⟨_, pss_one (ps_ost (pv 0) (pv 1)), ?_⟩
      refine ⟨_, rfl, _, rfl, a, C, rfl, xc.o, xc.no _ (by decide +kernel), .inl ⟨ea, fun d hd nd => ?_⟩⟩
      exact q d _ hd nd upd_same ((upd_ne nd).trans upd_same) fun b h1 h2 => (upd_ne h1).trans (upd_ne h2)
theorem rai_NoChoices (T : Tx K mg) : Rai P w K mg base "NoChoices" (He.ga K "NoChoices") ["found"] := by
  refine Rai.of T.x_NoChoices T.g_NoChoices T.F_NoChoices___init__ (fun F => F.binds (ps := ["self", "found"]) fun _ _ _ _ _ _ us hl => match us, hl with | [_, _], _ => rfl) fun F => FnG.of F sc_NoChoices___init__ (fun vs H Q E h => ?_) (fun cdv A outer s H vs Q E hr h => ?_) (ps := ["self", "found"])
  · obtain ⟨a, C, ys, rfl, hl, _⟩ := h; simpa using hl
  · obtain ⟨a, C, ys, rfl, hl, xc, ea, q⟩ := h
    match ys, hl with
    | [y], _ =>
      refine ⟨_, pss_one (ps_ost (pv 0) (pv 1)), ?_⟩
      refine ⟨_, rfl, _, rfl, a, C, rfl, xc.o, xc.no _ (by decide +kernel), .inl ⟨ea, fun d hd nd => ?_⟩⟩
      exact q d _ hd nd upd_same ((upd_ne nd).trans upd_same) fun b h1 h2 => (upd_ne h1).trans (upd_ne h2)
theorem rai_NoMaking (T : Tx K mg) : Rai P w K mg base "NoMaking" (He.ga K "NoMaking") ["found"] := by
  refine Rai.of T.x_NoMaking T.g_NoMaking T.F_NoMaking___init__ (fun F => F.binds (ps := ["self", "found"]) fun _ _ _ _ _ _ us hl => match us, hl with | [_, _], _ => rfl) fun F => FnG.of F sc_NoMaking___init__ (fun vs H Q E h => ?_) (fun cdv A outer s H vs Q E hr h => ?_) (ps := ["self", "found"])
  · obtain ⟨a, C, ys, rfl, hl, _⟩ := h; simpa using hl
  · obtain ⟨a, C, ys, rfl, hl, xc, ea, q⟩ := h
    match ys, hl with
    | [y], _ =>
      refine ⟨_, pss_one (ps_ost (pv 0) (pv 1)), ?_⟩
      refine ⟨_, rfl, _, rfl, a, C, rfl, xc.o, xc.no _ (by decide +kernel), .inl ⟨ea, fun d hd nd => ?_⟩⟩
      exact q d _ hd nd upd_same ((upd_ne nd).trans upd_same) fun b h1 h2 => (upd_ne h1).trans (upd_ne h2)
theorem rai_NoManner (T : Tx K mg) : Rai P w K mg base "NoManner" (He.ga K "NoManner") ["found"] := by
  refine Rai.of T.x_NoManner T.g_NoManner T.F_NoManner___init__ (fun F => F.binds (ps := ["self", "found"]) fun _ _ _ _ _ _ us hl => match us, hl with | [_, _], _ => rfl) fun F => FnG.of F sc_NoManner___init__ (fun vs H Q E h => ?_) (fun cdv A outer s H vs Q E hr h => ?_) (ps := ["self", "found"])
  · obtain ⟨a, C, ys, rfl, hl, _⟩ := h; simpa using hl
  · obtain ⟨a, C, ys, rfl, hl, xc, ea, q⟩ := h
    match ys, hl with
    | [y], _ =>
      refine ⟨_, pss_one (ps_ost (pv 0) (pv 1)), ?_⟩
      refine ⟨_, rfl, _, rfl, a, C, rfl, xc.o, xc.no _ (by decide +kernel), .inl ⟨ea, fun d hd nd => ?_⟩⟩
      exact q d _ hd nd upd_same ((upd_ne nd).trans upd_same) fun b h1 h2 => (upd_ne h1).trans (upd_ne h2)
theorem rai_NoNames (T : Tx K mg) : Rai P w K mg base "NoNames" (He.ga K "NoNames") ["found"] := by
  refine Rai.of T.x_NoNames T.g_NoNames T.F_NoNames___init__ (fun F => F.binds (ps := ["self", "found"]) fun _ _ _ _ _ _ us hl => match us, hl with | [_, _], _ => rfl) fun F => FnG.of F sc_NoNames___init__ (fun vs H Q E h => ?_) (fun cdv A outer s H vs Q E hr h => ?_) (ps := ["self", "found"])
  · obtain ⟨a, C, ys, rfl, hl, _⟩ := h; simpa using hl
  · obtain ⟨a, C, ys, rfl, hl, xc, ea, q⟩ := h
    match ys, hl with
    | [y], _ =>
      refine ⟨_, pss_one (ps_ost (pv 0) (pv 1)), ?_⟩
      refine ⟨_, rfl, _, rfl, a, C, rfl, xc.o, xc.no _ (by decide +kernel), .inl ⟨ea, fun d hd nd => ?_⟩⟩
      exact q d _ hd nd upd_same ((upd_ne nd).trans upd_same) fun b h1 h2 => (upd_ne h1).trans (upd_ne h2)
theorem rai_NoLine (T : Tx K mg) : Rai P w K mg base "NoLine" (He.ga K "NoLine") ["found"] := by
  refine Rai.of T.x_NoLine T.g_NoLine T.F_NoLine___init__ (fun F => F.binds (ps := ["self", "found"]) fun _ _ _ _ _ _ us hl => match us, hl with | [_, _], _ => rfl) fun F => FnG.of F sc_NoLine___init__ (fun vs H Q E h => ?_) (fun cdv A outer s H vs Q E hr h => ?_) (ps := ["self", "found"])
  · obtain ⟨a, C, ys, rfl, hl, _⟩ := h; simpa using hl
  · obtain ⟨a, C, ys, rfl, hl, xc, ea, q⟩ := h
    match ys, hl with
    | [y], _ =>
      refine ⟨_, pss_one (ps_ost (pv 0) (pv 1)), ?_⟩
      refine ⟨_, rfl, _, rfl, a, C, rfl, xc.o, xc.no _ (by decide +kernel), .inl ⟨ea, fun d hd nd => ?_⟩⟩
      exact q d _ hd nd upd_same ((upd_ne nd).trans upd_same) fun b h1 h2 => (upd_ne h1).trans (upd_ne h2)
theorem rai_TooMany (T : Tx K mg) : Rai P w K mg base "TooMany" (He.ga K "TooMany") ["many"] := by
  refine Rai.of T.x_TooMany T.g_TooMany T.F_TooMany___init__ (fun F => F.binds (ps := ["self", "many"]) fun _ _ _ _ _ _ us hl => match us, hl with | [_, _], _ => rfl) fun F => FnG.of F sc_TooMany___init__ (fun vs H Q E h => ?_) (fun cdv A outer s H vs Q E hr h => ?_) (ps := ["self", "many"])
  · obtain ⟨a, C, ys, rfl, hl, _⟩ := h; simpa using hl
  · obtain ⟨a, C, ys, rfl, hl, xc, ea, q⟩ := h
    match ys, hl with
    | [y], _ =>
      refine ⟨_, pss_one (ps_ost (pv 0) (pv 1)), ?_⟩
      refine ⟨_, rfl, _, rfl, a, C, rfl, xc.o, xc.no _ (by decide +kernel), .inl ⟨ea, fun d hd nd => ?_⟩⟩
      exact q d _ hd nd upd_same ((upd_ne nd).trans upd_same) fun b h1 h2 => (upd_ne h1).trans (upd_ne h2)
theorem rai_TooWide (T : Tx K mg) : Rai P w K mg base "TooWide" (He.ga K "TooWide") ["many"] := by
  refine Rai.of T.x_TooWide T.g_TooWide T.F_TooWide___init__ (fun F => F.binds (ps := ["self", "many"]) fun _ _ _ _ _ _ us hl => match us, hl with | [_, _], _ => rfl) fun F => FnG.of F sc_TooWide___init__ (fun vs H Q E h => ?_) (fun cdv A outer s H vs Q E hr h => ?_) (ps := ["self", "many"])
  · obtain ⟨a, C, ys, rfl, hl, _⟩ := h; simpa using hl
  · obtain ⟨a, C, ys, rfl, hl, xc, ea, q⟩ := h
    match ys, hl with
    | [y], _ =>
      refine ⟨_, pss_one (ps_ost (pv 0) (pv 1)), ?_⟩
      refine ⟨_, rfl, _, rfl, a, C, rfl, xc.o, xc.no _ (by decide +kernel), .inl ⟨ea, fun d hd nd => ?_⟩⟩
      exact q d _ hd nd upd_same ((upd_ne nd).trans upd_same) fun b h1 h2 => (upd_ne h1).trans (upd_ne h2)
theorem rai_TooLong (T : Tx K mg) : Rai P w K mg base "TooLong" (He.ga K "TooLong") ["many"] := by
  refine Rai.of T.x_TooLong T.g_TooLong T.F_TooLong___init__ (fun F => F.binds (ps := ["self", "many"]) fun _ _ _ _ _ _ us hl => match us, hl with | [_, _], _ => rfl) fun F => FnG.of F sc_TooLong___init__ (fun vs H Q E h => ?_) (fun cdv A outer s H vs Q E hr h => ?_) (ps := ["self", "many"])
  · obtain ⟨a, C, ys, rfl, hl, _⟩ := h; simpa using hl
  · obtain ⟨a, C, ys, rfl, hl, xc, ea, q⟩ := h
    match ys, hl with
    | [y], _ =>
      refine ⟨_, pss_one (ps_ost (pv 0) (pv 1)), ?_⟩
      refine ⟨_, rfl, _, rfl, a, C, rfl, xc.o, xc.no _ (by decide +kernel), .inl ⟨ea, fun d hd nd => ?_⟩⟩
      exact q d _ hd nd upd_same ((upd_ne nd).trans upd_same) fun b h1 h2 => (upd_ne h1).trans (upd_ne h2)
theorem rai_Kept (T : Tx K mg) : Rai P w K mg base "Kept" (He.ga K "Kept") ["ways"] := by
  refine Rai.of T.x_Kept T.g_Kept T.F_Kept___init__ (fun F => F.binds (ps := ["self", "ways"]) fun _ _ _ _ _ _ us hl => match us, hl with | [_, _], _ => rfl) fun F => FnG.of F sc_Kept___init__ (fun vs H Q E h => ?_) (fun cdv A outer s H vs Q E hr h => ?_) (ps := ["self", "ways"])
  · obtain ⟨a, C, ys, rfl, hl, _⟩ := h; simpa using hl
  · obtain ⟨a, C, ys, rfl, hl, xc, ea, q⟩ := h
    match ys, hl with
    | [y], _ =>
      refine ⟨_, pss_one (ps_ost (pv 0) (pv 1)), ?_⟩
      refine ⟨_, rfl, _, rfl, a, C, rfl, xc.o, xc.no _ (by decide +kernel), .inl ⟨ea, fun d hd nd => ?_⟩⟩
      exact q d _ hd nd upd_same ((upd_ne nd).trans upd_same) fun b h1 h2 => (upd_ne h1).trans (upd_ne h2)
theorem rai_TooDeep (T : Tx K mg) : Rai P w K mg base "TooDeep" (He.ga K "TooDeep") ["depth"] := by
  refine Rai.of T.x_TooDeep T.g_TooDeep T.F_TooDeep___init__ (fun F => F.binds (ps := ["self", "depth"]) fun _ _ _ _ _ _ us hl => match us, hl with | [_, _], _ => rfl) fun F => FnG.of F sc_TooDeep___init__ (fun vs H Q E h => ?_) (fun cdv A outer s H vs Q E hr h => ?_) (ps := ["self", "depth"])
  · obtain ⟨a, C, ys, rfl, hl, _⟩ := h; simpa using hl
  · obtain ⟨a, C, ys, rfl, hl, xc, ea, q⟩ := h
    match ys, hl with
    | [y], _ =>
      refine ⟨_, pss_one (ps_ost (pv 0) (pv 1)), ?_⟩
      refine ⟨_, rfl, _, rfl, a, C, rfl, xc.o, xc.no _ (by decide +kernel), .inl ⟨ea, fun d hd nd => ?_⟩⟩
      exact q d _ hd nd upd_same ((upd_ne nd).trans upd_same) fun b h1 h2 => (upd_ne h1).trans (upd_ne h2)
theorem rai_Twice (T : Tx K mg) : Rai P w K mg base "Twice" (He.ga K "Twice") ["label"] := by
  refine Rai.of T.x_Twice T.g_Twice T.F_Twice___init__ (fun F => F.binds (ps := ["self", "label"]) fun _ _ _ _ _ _ us hl => match us, hl with | [_, _], _ => rfl) fun F => FnG.of F sc_Twice___init__ (fun vs H Q E h => ?_) (fun cdv A outer s H vs Q E hr h => ?_) (ps := ["self", "label"])
  · obtain ⟨a, C, ys, rfl, hl, _⟩ := h; simpa using hl
  · obtain ⟨a, C, ys, rfl, hl, xc, ea, q⟩ := h
    match ys, hl with
    | [y], _ =>
      refine ⟨_, pss_one (ps_ost (pv 0) (pv 1)), ?_⟩
      refine ⟨_, rfl, _, rfl, a, C, rfl, xc.o, xc.no _ (by decide +kernel), .inl ⟨ea, fun d hd nd => ?_⟩⟩
      exact q d _ hd nd upd_same ((upd_ne nd).trans upd_same) fun b h1 h2 => (upd_ne h1).trans (upd_ne h2)
theorem rai_NoLabel (T : Tx K mg) : Rai P w K mg base "NoLabel" (He.ga K "NoLabel") ["label"] := by
  refine Rai.of T.x_NoLabel T.g_NoLabel T.F_NoLabel___init__ (fun F => F.binds (ps := ["self", "label"]) fun _ _ _ _ _ _ us hl => match us, hl with | [_, _], _ => rfl) fun F => FnG.of F sc_NoLabel___init__ (fun vs H Q E h => ?_) (fun cdv A outer s H vs Q E hr h => ?_) (ps := ["self", "label"])
  · obtain ⟨a, C, ys, rfl, hl, _⟩ := h; simpa using hl
  · obtain ⟨a, C, ys, rfl, hl, xc, ea, q⟩ := h
    match ys, hl with
    | [y], _ =>
      refine ⟨_, pss_one (ps_ost (pv 0) (pv 1)), ?_⟩
      refine ⟨_, rfl, _, rfl, a, C, rfl, xc.o, xc.no _ (by decide +kernel), .inl ⟨ea, fun d hd nd => ?_⟩⟩
      exact q d _ hd nd upd_same ((upd_ne nd).trans upd_same) fun b h1 h2 => (upd_ne h1).trans (upd_ne h2)
theorem rai_NotStraight (T : Tx K mg) : Rai P w K mg base "NotStraight" (He.ga K "NotStraight") ["number"] := by
  refine Rai.of T.x_NotStraight T.g_NotStraight T.F_NotStraight___init__ (fun F => F.binds (ps := ["self", "number"]) fun _ _ _ _ _ _ us hl => match us, hl with | [_, _], _ => rfl) fun F => FnG.of F sc_NotStraight___init__ (fun vs H Q E h => ?_) (fun cdv A outer s H vs Q E hr h => ?_) (ps := ["self", "number"])
  · obtain ⟨a, C, ys, rfl, hl, _⟩ := h; simpa using hl
  · obtain ⟨a, C, ys, rfl, hl, xc, ea, q⟩ := h
    match ys, hl with
    | [y], _ =>
      refine ⟨_, pss_one (ps_ost (pv 0) (pv 1)), ?_⟩
      refine ⟨_, rfl, _, rfl, a, C, rfl, xc.o, xc.no _ (by decide +kernel), .inl ⟨ea, fun d hd nd => ?_⟩⟩
      exact q d _ hd nd upd_same ((upd_ne nd).trans upd_same) fun b h1 h2 => (upd_ne h1).trans (upd_ne h2)
theorem rai_NoText (T : Tx K mg) : Rai P w K mg base "NoText" (He.ga K "NoText") ["line"] := by
  refine Rai.of T.x_NoText T.g_NoText T.F_NoText___init__ (fun F => F.binds (ps := ["self", "line"]) fun _ _ _ _ _ _ us hl => match us, hl with | [_, _], _ => rfl) fun F => FnG.of F sc_NoText___init__ (fun vs H Q E h => ?_) (fun cdv A outer s H vs Q E hr h => ?_) (ps := ["self", "line"])
  · obtain ⟨a, C, ys, rfl, hl, _⟩ := h; simpa using hl
  · obtain ⟨a, C, ys, rfl, hl, xc, ea, q⟩ := h
    match ys, hl with
    | [y], _ =>
      refine ⟨_, pss_one (ps_ost (pv 0) (pv 1)), ?_⟩
      refine ⟨_, rfl, _, rfl, a, C, rfl, xc.o, xc.no _ (by decide +kernel), .inl ⟨ea, fun d hd nd => ?_⟩⟩
      exact q d _ hd nd upd_same ((upd_ne nd).trans upd_same) fun b h1 h2 => (upd_ne h1).trans (upd_ne h2)
theorem rai_Gone (T : Tx K mg) : Rai P w K mg base "Gone" (He.ga K "Gone") ["found", "by"] := by
  refine Rai.of T.x_Gone T.g_Gone T.F_Gone___init__ (fun F => F.binds (ps := ["self", "found", "by"]) fun _ _ _ _ _ _ us hl => match us, hl with | [_, _, _], _ => rfl) fun F => FnG.of F sc_Gone___init__ (fun vs H Q E h => ?_) (fun cdv A outer s H vs Q E hr h => ?_) (ps := ["self", "found", "by"])
  · obtain ⟨a, C, ys, rfl, hl, _⟩ := h; simpa using hl
  · obtain ⟨a, C, ys, rfl, hl, xc, ea, q⟩ := h
    match ys, hl with
    | [y, z], _ =>
      refine ⟨_, pss_cons (ps_ost (pv 0) (pv 1)) (pss_one (ps_ost (pv 0) (pv 2))), ?_⟩
      refine ⟨_, rfl, _, rfl, a, C, rfl, xc.o, xc.no _ (by decide +kernel), .inl ⟨ea, fun d hd nd => ?_⟩⟩
      refine ⟨_, rfl, _, rfl, a, C, rfl, xc.o, xc.no _ (by decide +kernel), .inr ⟨d, _, upd_same, (upd_ne nd).trans upd_same, (by show 1 ≤ 900; decide), ?_⟩⟩
      exact q d _ hd nd ((upd_ne nd.symm).trans upd_same) upd_same fun b h1 h2 => (upd_ne h2).trans ((upd_ne h1).trans (upd_ne h2))
theorem rai_Full (T : Tx K mg) : Rai P w K mg base "Full" (He.ga K "Full") ["need", "spare"] := by
  refine Rai.of T.x_Full T.g_Full T.F_Full___init__ (fun F => F.binds (ps := ["self", "need", "spare"]) fun _ _ _ _ _ _ us hl => match us, hl with | [_, _, _], _ => rfl) fun F => FnG.of F sc_Full___init__ (fun vs H Q E h => ?_) (fun cdv A outer s H vs Q E hr h => ?_) (ps := ["self", "need", "spare"])
  · obtain ⟨a, C, ys, rfl, hl, _⟩ := h; simpa using hl
  · obtain ⟨a, C, ys, rfl, hl, xc, ea, q⟩ := h
    match ys, hl with
    | [y, z], _ =>
      refine ⟨_, pss_cons (ps_ost (pv 0) (pv 1)) (pss_one (ps_ost (pv 0) (pv 2))), ?_⟩
      refine ⟨_, rfl, _, rfl, a, C, rfl, xc.o, xc.no _ (by decide +kernel), .inl ⟨ea, fun d hd nd => ?_⟩⟩
      refine ⟨_, rfl, _, rfl, a, C, rfl, xc.o, xc.no _ (by decide +kernel), .inr ⟨d, _, upd_same, (upd_ne nd).trans upd_same, (by show 1 ≤ 900; decide), ?_⟩⟩
      exact q d _ hd nd ((upd_ne nd.symm).trans upd_same) upd_same fun b h1 h2 => (upd_ne h2).trans ((upd_ne h1).trans (upd_ne h2))
end
end Lw
namespace Lw
open PySem PySem.Spec L2 FG
open PyProof.Rows hiding St
def names0 : List PySem.Str := ["__name__", "RoomError", "NoNumber", "NoName", "NoValue", "NoFrame", "Gone", "Ground", "TooMany", "Full", "NoWay", "NoCell", "NoHands", "Kept", "NoDeed", "TooDeep", "TooWide", "TooLong", "Twice", "NoLabel", "NoChoices", "NoMaking", "NotStraight", "NoText", "NoManner"]
def names1 : List PySem.Str := ["NoNames", "NoLine", "NoHouse", "NoProgram", "_law_cell", "_law_box", "_law_take", "_law_thing", "_law_made", "_law_field", "_law_kinds", "_law_apart", "_law_number", "_law_text", "_law_plain_right", "_law_bare_right"]
abbrev Rw : PySem.W.OpenRow := PySem.W.OpenLaw.row PySem.Challenge.rw_framerooms_k03_refusals_apart
abbrev hk : PySem.W.Hook := hookZ 6 faL fnL exF
def ob (s : PySem.W.SharedT) : He.AlD × Bool := obsZ 6 faL fnL exF (HandSHeadRun.getT s)
theorem ob_eq (s : PySem.W.SharedT) : ob s = hk.obs s.abs := obsZ_eq (HandSHeadRun.getT_eq s)
theorem run (w : World) : HandSHeadRun.RunEq Rw (PySem.W.view Rw.prog [42]) hk ob 8000 (names0 ++ names1) w := by
  intro os
  kernel_rfl

end Lw
namespace Lw
open PySem PySem.Spec L2 FG
open PyProof.Rows hiding St
/-! ### the law's draws: a cell, a box, a take -/
/-- at b a box that has been asked at most n times behind its digits -/
def BoxAt (H : Hp) (b : Addr) (n : Int) : Prop := ∃ x y c : Int, H b = some (.lst [.int x, .int y, .int c]) ∧ 0 ≤ x ∧ 0 ≤ y ∧ y < 2147483629 ∧ 0 ≤ c ∧ c ≤ n
/-- all but b is as it was -/
def But (b : Addr) (H H' : Hp) : Prop := ∀ a, a ≠ b → H' a = H a
def spCell (K : PySem.W.Frag) : Sp := fun vs H Q _ => ∃ (a : Addr) (ns : List Int) (k : Nat), vs = [.ref a, .int k] ∧ SqL K H a (ns.map V.int) ∧ ∀ z : Int, Q (.int z) H
def spBox : Sp := fun vs H Q _ => ∃ z : Int, vs = [.int z] ∧ ∀ b H', H b = none → But b H H' → BoxAt H' b 0 → Q (.ref b) H'
def spTake : Sp := fun vs H Q _ => ∃ (b : Addr) (n m : Int), vs = [.ref b, .int m] ∧ BoxAt H b n ∧ n < 1000000000 ∧ 0 < m ∧ m < 2 ^ 60 ∧
  ∀ H' (d : Int), But b H H' → BoxAt H' b (n + 1) → 0 ≤ d → d < m → Q (.int d) H'
section
variable {P : Program} {w : World} {K : PySem.W.Frag} {mg : Str → Option Value} {base : Heap}
theorem ok_cell (T : Tx K mg) {fd : FuncData} (F : Fun K "_law_cell" "_law_cell" s__law_cell (He.ga K "_law_cell") fd) : FnG P w K mg base 1 (He.ga K "_law_cell") fd ["_law_script", "_law_k"] (spCell K) := by
  refine FnG.of F sc__law_cell (fun vs H Q E h => ?_) (fun cdv A outer s H vs Q E hr h => ?_)
  · obtain ⟨a, ns, k, rfl, _⟩ := h; rfl
  · obtain ⟨a, ns, k, rfl, hS, q⟩ := h
    refine ⟨_, pss_cons (ps_if (pt_cmpR op_lt (pv 1) (pe_callB (klen K) (by rfl) T.z_len PySem.boot_len (pa_cons (pv 0) (pa_nil))) (by first | exact nomark _ | rfl)) (pss_one (ps_ret (pe_ix (kixL K) (pv 0) (pv 1) (fun _ _ => rfl)))) (pss_nil))
      (pss_one (ps_ret (pe_op op_add (pe_op op_mul (pe_int) (pv 1)) (pe_int)))), ?_⟩
    refine ⟨_, rfl, _, rfl, a, _, rfl, .inl hS, _, _, rfl, rfl, _, rfl, ?_⟩
    refine ite2 (fun hlt => ?_) (fun hge => ?_)
    · have hk : k < ns.length := by simpa using hlt
      refine ⟨_, rfl, _, rfl, a, _, _, .int ns[k], rfl, rfl, hS, ?_, q _⟩
      exact atI_nat (by rw [List.getElem?_map, List.getElem?_eq_getElem hk]; rfl)
    · refine ⟨_, rfl, _, _, rfl, rfl, .inl ⟨by decide, by decide⟩, _, _, rfl, rfl, q _⟩
theorem ok_box (T : Tx K mg) {fd : FuncData} (F : Fun K "_law_box" "_law_box" s__law_box (He.ga K "_law_box") fd) : FnG P w K mg base 1 (He.ga K "_law_box") fd ["_law_cell_here"] spBox := by
  refine FnG.of F sc__law_box (fun vs H Q E h => ?_) (fun cdv A outer s H vs Q E hr h => ?_)
  · obtain ⟨z, rfl, _⟩ := h; rfl
  · obtain ⟨z, rfl, q⟩ := h
    refine ⟨_, pss_one (ps_ret (pe_lst (pa_cons (pe_callB (call_max2 rfl) (by rfl) T.z_max (by decide +kernel) (pa_cons (pe_int) (pa_cons (pe_op op_sub (pv 0) (pe_op op_pow (pe_int) (pe_int))) (pa_nil)))) (pa_cons (pe_op op_mod (pv 0) (pe_int)) (pa_cons (pe_int) (pa_nil)))))), ?_⟩
    refine ⟨_, rfl, _, _, rfl, rfl, ⟨by decide, by decide, by decide⟩, _, _, rfl, rfl, _, _, rfl, ?_⟩
    refine ⟨_, rfl, _, _, rfl, rfl, (by show (0 : Int) < 2147483629; decide), (by show 3 ≤ sizeLine; decide), fun b hb => q b _ hb (fun a ha => upd_ne ha) ⟨_, _, _, upd_same, ?_, ?_, ?_, by decide, by decide⟩⟩
    · split <;> omega
    · exact Int.emod_nonneg _ (by decide)
    · exact Int.emod_lt_of_pos _ (by decide)
theorem ok_take (T : Tx K mg) {fd : FuncData} (F : Fun K "_law_take" "_law_take" s__law_take (He.ga K "_law_take") fd) : FnG P w K mg base 1 (He.ga K "_law_take") fd ["_law_box_here", "_law_many"] spTake := by
  refine FnG.of F sc__law_take (fun vs H Q E h => ?_) (fun cdv A outer s H vs Q E hr h => ?_)
  · obtain ⟨b, n, m, rfl, _⟩ := h; rfl
  · obtain ⟨b, n, m, rfl, ⟨x, y, c, hb, hx, hy, hy2, hc, hcn⟩, hn, hm, hm2, q⟩ := h
    refine ⟨_, pss_cons (ps_if (pt_cmpR op_gt (pe_ix (kixL K) (pv 0) (pe_int) (fun _ _ => rfl)) (pe_int) (by first | exact nomark _ | rfl)) (pss_cons (ps_set (i := 2) sc__law_take.nd rfl (by first | exact Or.inl rfl | exact Or.inr rfl) (pe_op op_mod (pe_ix (kixL K) (pv 0) (pe_int) (fun _ _ => rfl)) (pv 1)))
      (pss_cons (ps_asg (pe_op op_fdivW (pe_ix (kixL K) (pv 0) (pe_int) (fun _ _ => rfl)) (pv 1)) (pg_sub (pv 0) (pe_int) set_list))
      (pss_one (ps_ret (pv 2))))) (pss_nil))
      (pss_cons (ps_asg (pe_op op_add (pe_ix (kixL K) (pv 0) (pe_int) (fun _ _ => rfl)) (pe_int)) (pg_sub (pv 0) (pe_int) set_list))
      (pss_cons (ps_set (i := 3) sc__law_take.nd rfl (by first | exact Or.inl rfl | exact Or.inr rfl) (pe_op op_mod (pe_op op_pow (pe_op op_add (pe_op op_add (pe_ix (kixL K) (pv 0) (pe_int) (fun _ _ => rfl)) (pe_op op_mul (pe_int) (pe_ix (kixL K) (pv 0) (pe_int) (fun _ _ => rfl)))) (pe_int)) (pe_int)) (pe_int)))
      (pss_cons (ps_set (i := 4) sc__law_take.nd rfl (by first | exact Or.inl rfl | exact Or.inr rfl) (pe_op op_mod (pe_op op_pow (pe_op op_add (pe_op op_add (pe_op op_fdiv (pv 3) (pe_int)) (pe_op op_mul (pe_int) (pe_ix (kixL K) (pv 0) (pe_int) (fun _ _ => rfl)))) (pe_int)) (pe_int)) (pe_int)))
      (pss_one (ps_ret (pe_op op_mod (pe_op op_add (pe_op op_fdiv (pv 3) (pe_int)) (pe_op op_mul (pe_int) (pe_op op_fdiv (pv 4) (pe_int)))) (pv 1))))))), ?_⟩
    refine ⟨_, rfl, _, _, _, _, rfl, rfl, SqL.of hb, rfl, _, _, rfl, rfl, _, rfl, ?_⟩
    refine ite2 (fun h0 => ?_) (fun h0 => ?_)
    · refine ⟨_, rfl, _, _, _, _, rfl, rfl, SqL.of hb, rfl, _, rfl, _, _, rfl, rfl, hm, ?_⟩
      refine ⟨_, rfl, _, _, _, _, rfl, rfl, SqL.of hb, rfl, _, rfl, _, _, rfl, rfl, wide_div hm (b := 60) (by omega) (by decide) (by decide), ?_⟩
      refine ⟨_, rfl, _, _, _, 0, rfl, rfl, hb, rfl, ?_⟩
      refine ⟨_, rfl, q _ _ (fun a ha => upd_ne ha) ⟨_, _, _, upd_same, Int.ediv_nonneg hx (by omega), hy, hy2, hc, by omega⟩ (Int.emod_nonneg _ (by omega)) (Int.emod_lt_of_pos _ hm)⟩
    · have e : x = 0 := by
        have z : ¬ (0 < x) := by simpa using h0
        omega
      subst e
      -- box[2] = box[2] + 1
      refine ⟨_, rfl, _, _, _, _, rfl, rfl, SqL.of hb, rfl, _, _, rfl, rfl, _, rfl, _, _, _, 2, rfl, rfl, hb, rfl, ?_⟩
      have hb2 : (upd H b (.lst [.int 0, .int y, .int (c + 1)])) b = some (.lst [.int 0, .int y, .int (c + 1)]) := upd_same
      refine ⟨_, rfl, _, _, _, _, rfl, rfl, SqL.of hb2, rfl, _, rfl, _, _, _, _, rfl, rfl, SqL.of hb2, rfl, _, _, rfl, rfl, .inl ⟨by decide, by decide⟩, _, _, rfl, rfl, _, _, rfl, rfl, _, _, rfl, rfl, ⟨by decide, by decide, ?_⟩, _, _, rfl, rfl, (by show (0 : Int) < 2147483647; decide), ?_⟩
      · show (y + 7919 * (c + 1) + 29).natAbs < 2 ^ 64
        omega
      obtain ⟨u, h1⟩ : ∃ u, u = (y + 7919 * (c + 1) + 29) ^ Int.toNat 5 % 2147483647 := ⟨_, rfl⟩
      have u0 : 0 ≤ u := h1 ▸ Int.emod_nonneg _ (by decide)
      have u1 : u < 2147483647 := h1 ▸ Int.emod_lt_of_pos _ (by decide)
      refine ⟨_, rfl, _, _, rfl, rfl, ⟨by decide, by decide⟩, _, rfl, _, _, _, _, rfl, rfl, SqL.of hb2, rfl, _, _, rfl, rfl, .inl ⟨by decide, by decide⟩, _, _, rfl, rfl, _, _, rfl, rfl, _, _, rfl, rfl, ⟨by decide, by decide, ?_⟩, _, _, rfl, rfl, (by show (0 : Int) < 2147483629; decide), ?_⟩
      · show ((y + 7919 * (c + 1) + 29) ^ Int.toNat 5 % 2147483647 / 8 + 104729 * (c + 1) + 3).natAbs < 2 ^ 64
        rw [← h1]
        omega
      refine ⟨_, rfl, _, _, rfl, rfl, ⟨by decide, by decide⟩, _, rfl, _, _, rfl, rfl, ⟨by decide, by decide⟩, _, _, rfl, rfl, .inl ⟨by decide, by decide⟩, _, _, rfl, rfl, _, rfl, _, _, rfl, rfl, hm, ?_⟩
      exact q _ _ (fun a ha => upd_ne ha) ⟨_, _, _, hb2, Int.le_refl 0, hy, hy2, by omega, by omega⟩ (Int.emod_nonneg _ (by omega)) (Int.emod_lt_of_pos _ hm)
end

end Lw
namespace Lw
open PySem PySem.Spec L2 FG
open PyProof.Rows hiding St
/-! ### frames as plain lists: hs the frames straight around, ts those that were ended to take them -/
def enc : Option Int → V
  | none => .non
  | some i => .int i
def nint (n : Nat) : V := .int (n : Int)
/-- the numbers that stand, rising -/
def stand (ts : List (Option Int)) : List Nat := (List.range ts.length).filter fun i => decide (ts[i]? = some none)
/-- the row from the ground -/
def rowW (hs : List (Option Int)) (i : Nat) : List Nat := match hs[i]? with
  | some (some j) => if j.toNat < i then rowW hs j.toNat ++ [i] else [i]
  | _ => [i]
termination_by i
/-- all that end with f, falling -/
def fin (hs ts : List (Option Int)) (f : Nat) : List Nat := (stand ts).reverse.filter fun k => decide (f ∈ rowW hs k)
/-- taken by f -/
def taken (ts : List (Option Int)) (ks : List Nat) (f : Nat) : List (Option Int) := ks.foldl (fun t k => t.set k (some (f : Int))) ts
structure Wf (hs ts : List (Option Int)) : Prop where
  len : ts.length = hs.length
  pos : 0 < hs.length
  small : hs.length ≤ 101
  root : hs[0]? = some none
  up : ∀ i, 0 < i → i < hs.length → ∃ j : Nat, hs[i]? = some (some (j : Int)) ∧ j < i
theorem wf0 : Wf [none] [none] := ⟨rfl, by decide, by decide, rfl, fun i h1 h2 => by simp at h2; omega⟩
theorem taken_len (ks : List Nat) (f : Nat) : ∀ ts, (taken ts ks f).length = ts.length := by
  induction ks with
  | nil => intro ts; rfl
  | cons k ks ih => intro ts; exact (ih _).trans (List.length_set)
theorem Wf.taken {hs ts : List (Option Int)} (w : Wf hs ts) (ks : List Nat) (f : Nat) : Wf hs (Lw.taken ts ks f) := ⟨(taken_len ks f ts).trans w.len, w.pos, w.small, w.root, w.up⟩
theorem Wf.begun {hs ts : List (Option Int)} (w : Wf hs ts) {f : Nat} (hf : f < hs.length) (h100 : hs.length ≤ 100) : Wf (hs ++ [some (f : Int)]) (ts ++ [none]) := by
  refine ⟨by simp [w.len], by simp, by simp; omega, ?_, fun i h0 h1 => ?_⟩
  · rw [List.getElem?_append_left w.pos]; exact w.root
  · by_cases h : i < hs.length
    · rw [List.getElem?_append_left h]; exact w.up i h0 h
    · have e : i = hs.length := by simp at h1; omega
      subst e
      exact ⟨f, by simp, hf⟩
theorem row_root {hs ts : List (Option Int)} (w : Wf hs ts) : rowW hs 0 = [0] := by rw [rowW, w.root]
theorem row_up {hs : List (Option Int)} {i j : Nat} (h : hs[i]? = some (some (j : Int))) (hj : j < i) : rowW hs i = rowW hs j ++ [i] := by
  rw [rowW, h]
  show (if (j : Int).toNat < i then rowW hs (j : Int).toNat ++ [i] else [i]) = _
  rw [Int.toNat_natCast, if_pos hj]
theorem row_len {hs ts : List (Option Int)} (w : Wf hs ts) : ∀ n i, i < n → i < hs.length → (rowW hs i).length ≤ i + 1 := by
  intro n
  induction n with
  | zero => intro i h; omega
  | succ n ih =>
    intro i h hi
    by_cases h0 : i = 0
    · subst h0; rw [row_root w]; simp
    · obtain ⟨j, e, hj⟩ := w.up i (by omega) hi
      rw [row_up e hj, List.length_append]
      have := ih j (by omega) (by omega)
      simp; omega
theorem row_lt {hs ts : List (Option Int)} (w : Wf hs ts) : ∀ n i, i < n → i < hs.length → ∀ k ∈ rowW hs i, k ≤ i := by
  intro n
  induction n with
  | zero => intro i h; omega
  | succ n ih =>
    intro i h hi k hk
    by_cases h0 : i = 0
    · subst h0; rw [row_root w] at hk; simp at hk; omega
    · obtain ⟨j, e, hj⟩ := w.up i (by omega) hi
      rw [row_up e hj] at hk
      rcases List.mem_append.mp hk with hk | hk
      · have := ih j (by omega) (by omega) k hk; omega
      · simp at hk; omega
theorem mem_stand {ts : List (Option Int)} {i : Nat} : i ∈ stand ts ↔ ts[i]? = some none := by
  unfold stand
  rw [List.mem_filter, List.mem_range]
  constructor
  · rintro ⟨_, h⟩; exact of_decide_eq_true h
  · intro h
    exact ⟨(List.getElem?_eq_some_iff.mp h).1, decide_eq_true h⟩
theorem stand_len (ts : List (Option Int)) : (stand ts).length ≤ ts.length := by
  unfold stand
  exact Nat.le_trans (List.length_filter_le _ _) (by simp)
theorem fin_stand {hs ts : List (Option Int)} {f k : Nat} (h : k ∈ fin hs ts f) : ts[k]? = some none := by
  unfold fin at h
  rw [List.mem_filter, List.mem_reverse] at h
  exact mem_stand.mp h.1
theorem fin_len (hs ts : List (Option Int)) (f : Nat) : (fin hs ts f).length ≤ ts.length := by
  unfold fin
  refine Nat.le_trans (List.length_filter_le _ _) ?_
  rw [List.length_reverse]; exact stand_len ts
theorem filter_more {α : Type} (p : α → Bool) {xs : List α} {i : Nat} {x : α} (h : xs[i]? = some x) : (xs.take (i + 1)).filter p = (xs.take i).filter p ++ (if p x = true then [x] else []) := by
  obtain ⟨hi, e⟩ := List.getElem?_eq_some_iff.mp h
  rw [List.take_succ_eq_append_getElem hi, List.filter_append, e]
  congr 1
  by_cases hp : p x = true
  · simp [hp]
  · simp [hp]
theorem sel_yes {α : Type} (f : α → V) (p : α → Bool) {xs : List α} {i : Nat} {x : α} (h : xs[i]? = some x) (hp : p x = true) : ((xs.take (i + 1)).filter p).map f = ((xs.take i).filter p).map f ++ [f x] := by
  rw [filter_more p h, hp]; simp
theorem sel_no {α : Type} (f : α → V) (p : α → Bool) {xs : List α} {i : Nat} {x : α} (h : xs[i]? = some x) (hp : p x = false) : ((xs.take (i + 1)).filter p).map f = ((xs.take i).filter p).map f := by
  rw [filter_more p h, hp]; simp
theorem foldl_more {α β : Type} (g : β → α → β) {xs : List α} {i : Nat} {x : α} {b : β} (h : xs[i]? = some x) : (xs.take (i + 1)).foldl g b = g ((xs.take i).foldl g b) x := by
  obtain ⟨hi, e⟩ := List.getElem?_eq_some_iff.mp h
  rw [List.take_succ_eq_append_getElem hi, List.foldl_append, e]; rfl
theorem inV_nint (f : Nat) (xs : List Nat) : inV (.int (f : Int)) (xs.map nint) = decide (f ∈ xs) := by
  unfold inV
  rw [Bool.eq_iff_iff, List.any_eq_true, decide_eq_true_eq]
  constructor
  · rintro ⟨y, hy, e⟩
    obtain ⟨n, hn, rfl⟩ := List.mem_map.mp hy
    have e2 : ((n : Int) == (f : Int)) = true := e
    have : n = f := by have := eq_of_beq e2; omega
    subst this; exact hn
  · intro h
    exact ⟨nint f, List.mem_map.mpr ⟨f, h, rfl⟩, by show ((f : Int) == (f : Int)) = true; simp⟩
theorem flat_nint (xs : List Nat) : (xs.map nint).all flatV = true := by
  rw [List.all_eq_true]; rintro y hy; obtain ⟨n, _, rfl⟩ := List.mem_map.mp hy; rfl
theorem dp_enc (K : PySem.W.Frag) (H : Hp) : ∀ xs : List (Option Int), DpAll K H (xs.map enc) (xs.map fun o => match o with | none => PyData.none | some i => PyData.int i)
  | [] => .nil
  | none :: xs => .cons .non (dp_enc K H xs)
  | some i :: xs => .cons (.int i) (dp_enc K H xs)
theorem dp_nint (K : PySem.W.Frag) (H : Hp) : ∀ xs : List Nat, DpAll K H (xs.map nint) (xs.map fun n : Nat => PyData.int (n : Int))
  | [] => .nil
  | n :: xs => .cons (.int (n : Int)) (dp_nint K H xs)
/-- all but the objects of S is as it was -/
def Kp (S : List Addr) (H H' : Hp) : Prop := ∀ b o, H b = some o → b ∉ S → H' b = some o
theorem Kp.refl {S : List Addr} {H : Hp} : Kp S H H := fun _ _ e _ => e
theorem Kp.trans {S : List Addr} {H H1 H2 : Hp} (a : Kp S H H1) (b : Kp S H1 H2) : Kp S H H2 := fun c o e h => b c o (a c o e h) h
theorem Kp.at {S : List Addr} {H H' : Hp} (k : Kp S H H') {b : Addr} {o : HO} (e : H b = some o) (h : b ∉ S) : H' b = some o := k b o e h
theorem Kp.free {H H' : Hp} (k : Kp [] H H') {b : Addr} (e : H' b = none) : H b = none := by
  cases q : H b with
  | none => rfl
  | some o => rw [k b o q (by simp)] at e; cases e

end Lw
namespace Lw
open PySem PySem.Spec L2 FG
open PyProof.Rows hiding St
/-! what is kept -/
theorem But.kp {b : Addr} {H H' : Hp} (k : But b H H') : Kp [b] H H' := fun a o e h => (k a (by simpa using h)).trans e
theorem Kp.mono {S S' : List Addr} {H H' : Hp} (k : Kp S H H') (h : ∀ a ∈ S, a ∈ S') : Kp S' H H' := fun b o e n => k b o e fun z => n (h b z)
theorem BoxAt.kp {S : List Addr} {H H' : Hp} {b : Addr} {n : Int} (x : BoxAt H b n) (k : Kp S H H') (h : b ∉ S) : BoxAt H' b n := by
  obtain ⟨x, y, c, e, r⟩ := x
  exact ⟨x, y, c, k _ _ e h, r⟩
theorem BoxAt.more {H : Hp} {b : Addr} {n m : Int} (x : BoxAt H b n) (h : n ≤ m) : BoxAt H b m := by
  obtain ⟨x, y, c, e, a1, a2, a3, a4, a5⟩ := x
  exact ⟨x, y, c, e, a1, a2, a3, a4, by omega⟩
theorem Kp.new {S : List Addr} {H H1 : Hp} {a : Addr} {o : HO} (k : Kp S H H1) (h : H1 a = none) : Kp S H (L2.upd H1 a o) := fun b ob e n => (upd_ne (ne_of_none (k b ob e n) h)).trans (k b ob e n)
theorem BoxAt.new {H : Hp} {b a : Addr} {n : Int} {o : HO} (x : BoxAt H b n) (h : H a = none) : BoxAt (L2.upd H a o) b n := x.kp (S := []) (Kp.refl.new h) (by simp)
/-- the script: locked, or an object of the module -/
def Scr (K : PySem.W.Frag) (H : Hp) (a : Addr) (ns : List Int) : Prop := (∃ o, H a = some (.frz o (.lst (ns.map V.int)))) ∨ ∀ H', SqL K H' a (ns.map V.int)
theorem Scr.sq {K : PySem.W.Frag} {H : Hp} {a : Addr} {ns : List Int} (x : Scr K H a ns) : SqL K H a (ns.map V.int) := by
  rcases x with ⟨o, z⟩ | z
  · exact .inl (.inr ⟨o, z⟩)
  · exact z H
theorem Scr.of {K : PySem.W.Frag} {H : Hp} {a : Addr} {ns : List Int} (hO : Only H) (h : SqL K H a (ns.map V.int)) : Scr K H a ns := by
  rcases h with (z | ⟨o, z⟩) | z
  · rcases hO a with y | ⟨o, xs, y⟩
    · rw [y] at z; cases z
    · rw [y] at z; cases z
  · exact .inl ⟨o, z⟩
  · exact .inr fun H' => .inr z
theorem Scr.kp {K : PySem.W.Frag} {S : List Addr} {H H' : Hp} {a : Addr} {ns : List Int} (x : Scr K H a ns) (k : Kp S H H') (hS : ∀ b ∈ S, ∀ o u, H b ≠ some (.frz o u)) : Scr K H' a ns := by
  rcases x with ⟨o, z⟩ | z
  · exact .inl ⟨o, k a _ z fun c => hS a c _ _ z⟩
  · exact .inr z
theorem Scr.kp0 {K : PySem.W.Frag} {H H' : Hp} {a : Addr} {ns : List Int} (x : Scr K H a ns) (k : Kp [] H H') : Scr K H' a ns := x.kp k fun _ z => by cases z
theorem BoxAt.nf {H : Hp} {b : Addr} {n : Int} (x : BoxAt H b n) : ∀ c ∈ [b], ∀ o u, H c ≠ some (.frz o u) := by
  obtain ⟨_, _, _, e, _⟩ := x
  intro c hc o u h; rw [List.mem_singleton] at hc; subst hc; rw [e] at h; cases h
theorem BoxAt.ne {H : Hp} {b c : Addr} {n : Int} (x : BoxAt H b n) (hc : H c = none) : c ≠ b := by
  obtain ⟨_, _, _, e, _⟩ := x; exact (ne_of_none e hc).symm

end Lw
namespace Lw
open PySem PySem.Spec L2 FG
open PyProof.Rows hiding St
/-! ### things of any kind; whole numbers, names, pairs -/
theorem iteB {b : Bool} {A B : Prop} (h1 : b = true → A) (h2 : b = false → B) : if b = true then A else B := by
  cases b with
  | true => exact iteT (h1 rfl)
  | false => exact iteF (h2 rfl)
inductive Sh (H : Hp) : V → Prop
  | non : Sh H .non
  | bl (b : Bool) : Sh H (.bl b)
  | int (z : Int) : Sh H (.int z)
  | str (z : Str) (h : z.length ≤ sizeLine) : Sh H (.str z)
  | lst {a : Addr} {xs : List V} (e : H a = some (.lst xs)) : Sh H (.ref a)
  | tup {a : Addr} {xs : List V} (e : H a = some (.tup xs)) : Sh H (.ref a)
  | dK {a : Addr} {kvs : List (Key × V)} (e : H a = some (.dK kvs)) : Sh H (.ref a)
def isIntV : V → Bool
  | .int _ | .bl _ => true
  | _ => false
def isBlV : V → Bool
  | .bl _ => true
  | _ => false
def numV : V → Bool
  | .int _ => true
  | _ => false
def strV : V → Option Str
  | .str z => some z
  | _ => none
def tupV (H : Hp) : V → Option (List V)
  | .ref a => match H a with
    | some (.tup xs) => some xs
    | _ => none
  | _ => none
theorem Sh.kp {H H' : Hp} {v : V} (s : Sh H v) (k : Kp [] H H') : Sh H' v := by
  cases s with
  | non => exact .non
  | bl b => exact .bl b
  | int z => exact .int z
  | str z h => exact .str z h
  | lst e => exact .lst (k _ _ e (by simp))
  | tup e => exact .tup (k _ _ e (by simp))
  | dK e => exact .dK (k _ _ e (by simp))
theorem tupV_some {H : Hp} {v : V} {xs : List V} (h : tupV H v = some xs) : ∃ a, v = .ref a ∧ H a = some (.tup xs) := by
  unfold tupV at h
  split at h
  · rename_i a
    split at h
    · rename_i ys e
      cases h
      exact ⟨a, rfl, e⟩
    · cases h
  · cases h
theorem tupV_ref {H : Hp} {a : Addr} {xs : List V} (h : H a = some (.tup xs)) : tupV H (.ref a) = some xs := by
  simp only [tupV, h]
theorem Sh.tupKp {H H' : Hp} {v : V} (s : Sh H v) (k : Kp [] H H') : tupV H' v = tupV H v := by
  cases s with
  | non => rfl
  | bl b => rfl
  | int z => rfl
  | str z h => rfl
  | lst e => simp only [tupV, e, k _ _ e (by simp)]
  | tup e => simp only [tupV, e, k _ _ e (by simp)]
  | dK e => simp only [tupV, e, k _ _ e (by simp)]
theorem Sh.ty {H : Hp} {v : V} (K : PySem.W.Frag) (s : Sh H v) : ∃ t : String, TyX K H v (.type t) ∧ kitB t "int" = some (isIntV v) ∧ kitB t "bool" = some (isBlV v) ∧ kitB t "str" = some (strV v).isSome ∧ kitB t "tuple" = some (tupV H v).isSome := by
  cases s with
  | non => exact ⟨_, .base .non, by decide +kernel, by decide +kernel, by decide +kernel, by show _ = some false; decide +kernel⟩
  | bl b => exact ⟨_, .base (.bl b), by show _ = some true; decide +kernel, by show _ = some true; decide +kernel, by show _ = some false; decide +kernel, by show _ = some false; decide +kernel⟩
  | int z => exact ⟨_, .base (.int z), by show _ = some true; decide +kernel, by show _ = some false; decide +kernel, by show _ = some false; decide +kernel, by show _ = some false; decide +kernel⟩
  | str z h => exact ⟨_, .base (.str z), by show _ = some false; decide +kernel, by show _ = some false; decide +kernel, by show _ = some true; decide +kernel, by show _ = some false; decide +kernel⟩
  | lst e => exact ⟨_, .base (.lst e), by show _ = some false; decide +kernel, by show _ = some false; decide +kernel, by show _ = some false; decide +kernel, by simp only [tupV, e]; decide +kernel⟩
  | tup e => exact ⟨_, .base (.tup e), by show _ = some false; decide +kernel, by show _ = some false; decide +kernel, by show _ = some false; decide +kernel, by simp only [tupV, e]; show _ = some true; decide +kernel⟩
  | dK e => exact ⟨_, .base (.dK e), by show _ = some false; decide +kernel, by show _ = some false; decide +kernel, by show _ = some false; decide +kernel, by simp only [tupV, e]; decide +kernel⟩
theorem isInt_num (v : V) (h : isIntV v = true) : (!isBlV v) = numV v := by
  cases v <;> first | rfl | cases h
theorem num_int (v : V) (h : isIntV v = false) : numV v = false := by
  cases v <;> first | rfl | cases h
theorem num_some {v : V} (h : numV v = true) : ∃ z, v = .int z := by
  cases v with
  | int z => exact ⟨z, rfl⟩
  | _ => cases h
theorem strV_some {v : V} {z : Str} (h : strV v = some z) : v = .str z := by
  cases v with
  | str y => cases h; rfl
  | _ => cases h
/-- low to high -/
def wholeV (v : V) (a b : Int) : Bool := match v with
  | .int z => decide (a ≤ z ∧ z ≤ b)
  | _ => false
theorem whole_num {v : V} {a b : Int} (h : numV v = false) : wholeV v a b = false := by
  cases v with
  | int z => cases h
  | _ => rfl
def letter (c : Nat) : Bool := decide (97 ≤ c ∧ c ≤ 122)
def nameS (z : Str) : Bool := decide (1 ≤ z.length ∧ z.length ≤ 6) && z.cps.toList.all letter
def nameV (v : V) : Bool := match strV v with
  | some z => nameS z
  | none => false
def posV : V → Bool
  | .int z => decide (0 ≤ z)
  | _ => false
def pairL (xs : List V) : Bool := decide (xs.length = 2) && xs.all posV
def pairV (H : Hp) (v : V) : Bool := match tupV H v with
  | some xs => pairL xs
  | none => false
/-- a thing, and in a tuple such things -/
structure Th (H : Hp) (v : V) : Prop where
  sh : Sh H v
  el : ∀ xs, tupV H v = some xs → xs.length ≤ 100 ∧ ∀ x ∈ xs, Sh H x
theorem Th.kp {H H' : Hp} {v : V} (s : Th H v) (k : Kp [] H H') : Th H' v := ⟨s.sh.kp k, fun xs h => by
  rw [s.sh.tupKp k] at h
  exact ⟨(s.el xs h).1, fun x hx => ((s.el xs h).2 x hx).kp k⟩⟩
theorem Th.pairKp {H H' : Hp} {v : V} (s : Th H v) (k : Kp [] H H') : pairV H' v = pairV H v := by
  unfold pairV; rw [s.sh.tupKp k]
def spNumG : Sp := fun vs H Q _ => ∃ v, vs = [v] ∧ Sh H v ∧ Q (.bl (numV v)) H
def spWholeG : Sp := fun vs H Q _ => ∃ v a b, vs = [v, .int a, .int b] ∧ Sh H v ∧ Q (.bl (wholeV v a b)) H
def spName : Sp := fun vs H Q _ => ∃ v, vs = [v] ∧ Sh H v ∧ ∀ H', Kp [] H H' → Q (.bl (nameV v)) H'
def spPair : Sp := fun vs H Q _ => ∃ v, vs = [v] ∧ Th H v ∧ ∀ H', Kp [] H H' → Q (.bl (pairV H v)) H'
theorem mem_letters (c : Nat) : decide (c ∈ ("abcdefghijklmnopqrstuvwxyz" : Str).cps.toList) = letter c := by
  have e : ("abcdefghijklmnopqrstuvwxyz" : Str).cps.toList = (List.range 26).map (· + 97) := by decide +kernel
  unfold letter
  rw [e, decide_eq_decide, List.mem_map]
  constructor
  · rintro ⟨x, hx, rfl⟩
    have := List.mem_range.mp hx
    omega
  · rintro ⟨h1, h2⟩
    exact ⟨c - 97, List.mem_range.mpr (by omega), by omega⟩
theorem all_take {α : Type} (p : α → Bool) (xs : List α) : ((xs.map p).all id) = xs.all p := by
  induction xs with
  | nil => rfl
  | cons x xs ih => simp [ih]
theorem map_take {α β : Type} (f : α → β) {xs : List α} {i : Nat} {x : α} (h : xs[i]? = some x) : (xs.take (i + 1)).map f = (xs.take i).map f ++ [f x] := by
  obtain ⟨hi, e⟩ := List.getElem?_eq_some_iff.mp h
  rw [List.take_succ_eq_append_getElem hi, List.map_append, e]; rfl
section
variable {P : Program} {w : World} {K : PySem.W.Frag} {mg : Str → Option Value} {base : Heap}
end

end Lw
namespace Lw
open PySem PySem.Spec L2 FG
open PyProof.Rows hiding St
section
variable {P : Program} {w : World} {K : PySem.W.Frag} {mg : Str → Option Value} {base : Heap}
end

end Lw
namespace Lw
open PySem PySem.Spec L2 FG
open PyProof.Rows hiding St
/-! ### small things about frames and their texts -/
/-- those that take are small -/
def TOk (ts : List (Option Int)) : Prop := ∀ i, some i ∈ ts → i.natAbs < 1000
theorem TOk.more {ts : List (Option Int)} (h : TOk ts) : TOk (ts ++ [none]) := fun i hi => by
  rcases List.mem_append.mp hi with z | z
  · exact h i z
  · simp at z
theorem TOk.taken {f : Nat} (hf : f < 1000) : ∀ (ks : List Nat) {ts : List (Option Int)}, TOk ts → TOk (taken ts ks f) := by
  intro ks
  induction ks with
  | nil => intro ts h; exact h
  | cons k ks ih =>
    intro ts h
    refine ih (ts := ts.set k (some (f : Int))) fun i hi => ?_
    rcases List.mem_or_eq_of_mem_set hi with z | z
    · exact h i z
    · cases z; omega
theorem taken_out {f : Nat} : ∀ (ks : List Nat) (ts : List (Option Int)) (i : Nat), i ∉ ks → (taken ts ks f)[i]? = ts[i]? := by
  intro ks
  induction ks with
  | nil => intro ts i _; rfl
  | cons k ks ih =>
    intro ts i h
    have h2 : ¬ i = k ∧ i ∉ ks := by simpa using h
    exact (ih _ i h2.2).trans (List.getElem?_set_ne (Ne.symm h2.1))
theorem ground_stays {hs ts : List (Option Int)} (w : Wf hs ts) (g : ts[0]? = some none) {f : Nat} (hf : 0 < f) : (taken ts (fin hs ts f) f)[0]? = some none := by
  rw [taken_out]
  · exact g
  · intro h
    unfold fin at h
    have h2 := of_decide_eq_true (List.mem_filter.mp h).2
    rw [row_root w] at h2
    simp at h2; omega
theorem and_if {c d : Bool} {X A B : Prop} (hX : (if d = true then A else B) → X) (h1 : c = true → d = true → A) (h2 : (c && d) = false → B) : if c = true then X else (if false = true then A else B) := by
  cases c with
  | false => exact iteF (iteF (h2 rfl))
  | true =>
    refine iteT (hX ?_)
    cases d with
    | false => exact iteF (h2 rfl)
    | true => exact iteT (h1 rfl rfl)
theorem or_no {c d : Bool} {X A B : Prop} (hX : (if d = true then A else B) → X) (hc : c = false) (hd : d = false) (h : B) : if c = true then (if true = true then A else B) else X := by
  subst hc hd
  exact iteF (hX (iteF h))
def pnint (n : Nat) : PyData := .int (n : Int)
theorem shw_nints {K : PySem.W.Frag} {l : Addr} {xs : List Nat} {H : Hp} (e : H l = some (.lst (xs.map nint))) (hx : ∀ x ∈ xs, x < 10000) (hl : xs.length ≤ 10000) : Shw K H (.ref l) (.list (xs.map pnint)) := by
  refine shw_at (.lst (SqL.of e) (dp_nint K H xs)) ?_ ?_ ?_
  · simp only [okD]
    refine okDs_of fun d hd => ?_
    obtain ⟨x, h, rfl⟩ := List.mem_map.mp hd
    have := hx x h
    have e1 : (10 : Nat) ^ 38 = 100000000000000000000000000000000000000 := by decide
    simp only [pnint, okD, decide_eq_true_eq, e1]; omega
  · simp only [PyData.bulk]
    rw [bulk_flat fun d hd => by obtain ⟨x, _, rfl⟩ := List.mem_map.mp hd; simp only [pnint, PyData.bulk], List.length_map]; omega
  · simp only [PyData.depth]
    rw [depth_flat fun d hd => by obtain ⟨x, _, rfl⟩ := List.mem_map.mp hd; simp only [pnint, PyData.depth]]; omega
theorem stand_lt {ts : List (Option Int)} {x : Nat} (h : x ∈ stand ts) : x < ts.length := (List.getElem?_eq_some_iff.mp (mem_stand.mp h)).1
theorem fin_lt {hs ts : List (Option Int)} {f x : Nat} (h : x ∈ fin hs ts f) : x < ts.length := (List.getElem?_eq_some_iff.mp (fin_stand h)).1

end Lw
namespace Lw
open PySem PySem.Spec L2 FG
open PyProof.Rows hiding St
/-- those that stand straight within n -/
def withinL (hs ts : List (Option Int)) (n : Nat) : List Nat := (stand ts).filter fun k => decide (hs[k]? = some (some (n : Int)))
theorem withinL_len (hs ts : List (Option Int)) (n : Nat) : (withinL hs ts n).length ≤ ts.length := Nat.le_trans (List.length_filter_le _ _) (stand_len ts)
theorem withinL_lt {hs ts : List (Option Int)} {n x : Nat} (h : x ∈ withinL hs ts n) : x < ts.length := stand_lt (List.mem_filter.mp h).1
theorem row_ind {hs ts : List (Option Int)} (w : Wf hs ts) {P : Nat → Prop} (h0 : P 0) (hs' : ∀ i j, 0 < i → i < hs.length → hs[i]? = some (some ((j : Nat) : Int)) → j < i → P j → P i) : ∀ i, i < hs.length → P i := by
  intro i
  induction i using Nat.strongRecOn with
  | _ i ih =>
    intro hi
    by_cases z : i = 0
    · subst z; exact h0
    · obtain ⟨j, e, hj⟩ := w.up i (by omega) hi
      exact hs' i j (by omega) hi e hj (ih j hj (by omega))
theorem row_self {hs ts : List (Option Int)} (w : Wf hs ts) {i : Nat} (hi : i < hs.length) : i ∈ rowW hs i := by
  refine row_ind w (P := fun i => i ∈ rowW hs i) ?_ (fun i j _ _ e hj _ => ?_) i hi
  · rw [row_root w]; simp
  · rw [row_up e hj]; simp
theorem row_sub {hs ts : List (Option Int)} (w : Wf hs ts) {i : Nat} (hi : i < hs.length) : ∀ r ∈ rowW hs i, ∀ s ∈ rowW hs r, s ∈ rowW hs i := by
  refine row_ind w (P := fun i => ∀ r ∈ rowW hs i, ∀ s ∈ rowW hs r, s ∈ rowW hs i) ?_ (fun i j _ _ e hj ih => ?_) i hi
  · intro r hr s hs'
    rw [row_root w] at hr
    have : r = 0 := by simpa using hr
    subst this; exact hs'
  · intro r hr s hs'
    have hr2 := hr
    rw [row_up e hj] at hr2 ⊢
    rcases List.mem_append.mp hr2 with z | z
    · exact List.mem_append_left _ (ih r z s hs')
    · have : r = i := by simpa using z
      subst this
      rw [row_up e hj] at hs'; exact hs'
theorem row_app {hs ts : List (Option Int)} (w : Wf hs ts) {x : Option Int} {i : Nat} (hi : i < hs.length) : rowW (hs ++ [x]) i = rowW hs i := by
  refine row_ind w (P := fun i => rowW (hs ++ [x]) i = rowW hs i) ?_ (fun i j h0 hi2 e hj ih => ?_) i hi
  · have e0 : (hs ++ [x])[0]? = some none := by rw [List.getElem?_append_left w.pos]; exact w.root
    rw [row_root w, rowW, e0]
  · have e1 : (hs ++ [x])[i]? = some (some (j : Int)) := by rw [List.getElem?_append_left hi2]; exact e
    rw [row_up e1 hj, row_up e hj, ih]
theorem mem_fin {hs ts : List (Option Int)} {f k : Nat} : k ∈ fin hs ts f ↔ ts[k]? = some none ∧ f ∈ rowW hs k := by
  unfold fin
  rw [List.mem_filter, List.mem_reverse, mem_stand, decide_eq_true_eq]
theorem taken_in {f : Nat} : ∀ (ks : List Nat) (ts : List (Option Int)) (k : Nat), k ∈ ks → k < ts.length → (taken ts ks f)[k]? = some (some (f : Int)) := by
  intro ks
  induction ks with
  | nil => intro ts k h; cases h
  | cons j ks ih =>
    intro ts k h hk
    show (taken (ts.set j (some (f : Int))) ks f)[k]? = _
    by_cases c : k ∈ ks
    · exact ih _ k c (by simpa using hk)
    · have e : k = j := by
        rcases List.mem_cons.mp h with z | z
        · exact z
        · exact absurd z c
      subst e
      rw [taken_out ks _ k c, List.getElem?_set_self hk]
/-- who stands stands with its whole row; what was ended by one lies within it -/
structure Hg (hs ts : List (Option Int)) : Prop where
  wf : Wf hs ts
  up : ∀ f, ts[f]? = some none → ∀ r ∈ rowW hs f, ts[r]? = some none
  by_ : ∀ f b, ts[f]? = some (some b) → ∃ k : Nat, b = (k : Int) ∧ k ∈ rowW hs f ∧ ts[k]? = some (some b)
theorem hg0 : Hg [none] [none] := by
  refine ⟨wf0, fun f hf r hr => ?_, fun f b hb => ?_⟩
  · have h1 : f < 1 := (List.getElem?_eq_some_iff.mp hf).1
    have h2 : f = 0 := by omega
    subst h2
    rw [row_root wf0] at hr
    have : r = 0 := by simpa using hr
    subst this; exact hf
  · have h1 : f < 1 := (List.getElem?_eq_some_iff.mp hb).1
    have h2 : f = 0 := by omega
    subst h2
    simp at hb
theorem Hg.begun {hs ts : List (Option Int)} (g : Hg hs ts) {f : Nat} (hf : ts[f]? = some none) (h100 : hs.length ≤ 100) : Hg (hs ++ [some (f : Int)]) (ts ++ [none]) := by
  have w := g.wf
  have wl := w.len
  have fl : f < ts.length := (List.getElem?_eq_some_iff.mp hf).1
  have w2 := w.begun (f := f) (by omega) h100
  have en : (hs ++ [some (f : Int)])[hs.length]? = some (some (f : Int)) := by simp
  have rn : rowW (hs ++ [some (f : Int)]) hs.length = rowW hs f ++ [hs.length] := by rw [row_up en (by omega), row_app w (by omega)]
  have app : ∀ {r : Nat}, ts[r]? = some none → (ts ++ [none])[r]? = some none := fun {r} h => by
    rw [List.getElem?_append_left (List.getElem?_eq_some_iff.mp h).1]; exact h
  have last : (ts ++ [none])[hs.length]? = some none := by rw [← wl]; simp
  refine ⟨w2, fun k hk r hr => ?_, fun k b hb => ?_⟩
  · by_cases c : k < hs.length
    · rw [row_app w c] at hr
      rw [List.getElem?_append_left (by omega)] at hk
      exact app (g.up k hk r hr)
    · have hk2 := (List.getElem?_eq_some_iff.mp hk).1
      have e : k = hs.length := by simp at hk2; omega
      subst e
      rw [rn] at hr
      rcases List.mem_append.mp hr with z | z
      · exact app (g.up f hf r z)
      · have : r = hs.length := by simpa using z
        subst this; exact last
  · by_cases c : k < hs.length
    · rw [List.getElem?_append_left (by omega)] at hb
      obtain ⟨j, e, h1, h2⟩ := g.by_ k b hb
      refine ⟨j, e, by rw [row_app w c]; exact h1, ?_⟩
      rw [List.getElem?_append_left (List.getElem?_eq_some_iff.mp h2).1]; exact h2
    · have hk2 := (List.getElem?_eq_some_iff.mp hb).1
      have e : k = hs.length := by simp at hk2; omega
      subst e
      rw [last] at hb; cases hb
theorem Hg.ended {hs ts : List (Option Int)} (g : Hg hs ts) {f : Nat} (hf : ts[f]? = some none) : Hg hs (taken ts (fin hs ts f) f) := by
  have w := g.wf
  have wl := w.len
  have fl : f < ts.length := (List.getElem?_eq_some_iff.mp hf).1
  have ff : f ∈ fin hs ts f := mem_fin.mpr ⟨hf, row_self w (by omega)⟩
  refine ⟨w.taken _ _, fun k hk r hr => ?_, fun k b hb => ?_⟩
  · have kl : k < ts.length := by have := (List.getElem?_eq_some_iff.mp hk).1; rwa [taken_len] at this
    by_cases c : k ∈ fin hs ts f
    · rw [taken_in _ _ _ c kl] at hk; cases hk
    · rw [taken_out _ _ _ c] at hk
      have nf : f ∉ rowW hs k := fun z => c (mem_fin.mpr ⟨hk, z⟩)
      rw [taken_out]
      · exact g.up k hk r hr
      · exact fun z => nf (row_sub w (by omega) r hr f (mem_fin.mp z).2)
  · have kl : k < ts.length := by have := (List.getElem?_eq_some_iff.mp hb).1; rwa [taken_len] at this
    by_cases c : k ∈ fin hs ts f
    · rw [taken_in _ _ _ c kl] at hb
      cases hb
      exact ⟨f, rfl, (mem_fin.mp c).2, taken_in _ _ _ ff fl⟩
    · rw [taken_out _ _ _ c] at hb
      obtain ⟨j, e, h1, h2⟩ := g.by_ k b hb
      refine ⟨j, e, h1, ?_⟩
      rw [taken_out]
      · exact h2
      · exact fun z => by rw [(mem_fin.mp z).1] at h2; cases h2
theorem Hg.alone {hs ts : List (Option Int)} (g : Hg hs ts) {f : Nat} {b : Int} (hf : ts[f]? = some (some b)) : withinL hs ts f = [] := by
  have w := g.wf
  have wl := w.len
  unfold withinL
  rw [List.filter_eq_nil_iff]
  intro k hk z
  have hk2 := mem_stand.mp hk
  have e := of_decide_eq_true z
  have kl := (List.getElem?_eq_some_iff.mp hk2).1
  by_cases k0 : k = 0
  · subst k0; rw [w.root] at e; cases e
  · obtain ⟨j, e2, hj⟩ := w.up k (by omega) (by omega)
    rw [e] at e2
    have ej : f = j := by injection e2 with e2; injection e2 with e2; omega
    subst ej
    have := g.up k hk2 f (by rw [row_up e hj]; exact List.mem_append_left _ (row_self w (by omega)))
    rw [this] at hf; cases hf

end Lw
namespace Lw
open PySem PySem.Spec L2 FG
open PyProof.Rows hiding St
/-! ### the kinds of refusals -/
def KINDS : List Str := ["NoNumber", "NoName", "NoValue", "NoFrame", "Gone", "Ground", "TooMany", "Full", "NoWay", "NoCell", "NoHands", "Kept", "NoDeed", "TooDeep", "TooWide", "TooLong", "Twice", "NoLabel", "NoChoices", "NoMaking", "NotStraight", "NoText", "NoManner", "NoNames", "NoLine", "NoHouse", "NoProgram"]
section
variable {P : Program} {w : World} {K : PySem.W.Frag} {mg : Str → Option Value} {base : Heap}
theorem exc_of (T : Tx K mg) : ∀ c ∈ ("RoomError" : Str) :: KINDS, ExcC K (He.ga K c) := by
  intro c hc
  simp only [KINDS, List.mem_cons, List.not_mem_nil, or_false] at hc
  rcases hc with rfl | rfl | rfl | rfl | rfl | rfl | rfl | rfl | rfl | rfl | rfl | rfl | rfl | rfl | rfl | rfl | rfl | rfl | rfl | rfl | rfl | rfl | rfl | rfl | rfl | rfl | rfl | rfl
  · exact T.x_RoomError.e
  · exact T.x_NoNumber.1.e
  · exact T.x_NoName.1.e
  · exact T.x_NoValue.1.e
  · exact T.x_NoFrame.1.e
  · exact T.x_Gone.1.e
  · exact T.x_Ground.e
  · exact T.x_TooMany.1.e
  · exact T.x_Full.1.e
  · exact T.x_NoWay.1.e
  · exact T.x_NoCell.1.e
  · exact T.x_NoHands.1.e
  · exact T.x_Kept.1.e
  · exact T.x_NoDeed.1.e
  · exact T.x_TooDeep.1.e
  · exact T.x_TooWide.1.e
  · exact T.x_TooLong.1.e
  · exact T.x_Twice.1.e
  · exact T.x_NoLabel.1.e
  · exact T.x_NoChoices.1.e
  · exact T.x_NoMaking.1.e
  · exact T.x_NotStraight.1.e
  · exact T.x_NoText.1.e
  · exact T.x_NoManner.1.e
  · exact T.x_NoNames.1.e
  · exact T.x_NoLine.1.e
  · exact T.x_NoHouse.e
  · exact T.x_NoProgram.e
theorem kit_of (T : Tx K mg) : ∀ c ∈ ("RoomError" : Str) :: KINDS, ∀ d ∈ KINDS, PySem.W.kitOne K (.ref (He.ga K c)) (.ref (He.ga K d)) = some (decide (c = d)) := by
  intro c hc d hd
  rcases List.mem_cons.mp hc with rfl | h
  · rw [T.isAll.rc d hd]
    have : ("RoomError" : Str) ≠ d := fun z => by subst z; revert hd; decide +kernel
    rw [decide_eq_false this]
  · exact T.isAll.cc c h d hd
/-- what it is -/
def isK (c : Str) : List V := KINDS.map fun d => V.bl (decide (c = d))
def spKinds (K : PySem.W.Frag) : Sp := fun vs H Q _ => ∃ (a : Addr) (c : Str) (kvs : List (Str × V)), vs = [.ref a] ∧ c ∈ ("RoomError" : Str) :: KINDS ∧ Xv H a (He.ga K c) kvs ∧ ∀ l H', H l = none → Kp [] H H' → H' l = some (.lst (isK c)) → Q (.ref l) H'
theorem ok_kinds (T : Tx K mg) {fd : FuncData} (F : Fun K "_law_kinds" "_law_kinds" s__law_kinds (He.ga K "_law_kinds") fd) : FnG P w K mg base 1 (He.ga K "_law_kinds") fd ["_law_e"] (spKinds K) := by
  refine FnG.of F sc__law_kinds (fun vs H Q E h => ?_) (fun cdv A outer sh H vs Q E hr h => ?_)
  · obtain ⟨a, c, kvs, rfl, _⟩ := h; rfl
  · obtain ⟨a, c, kvs, rfl, hc, xv, q⟩ := h
    have ex := exc_of T c hc
    have kt := kit_of T c hc
    refine ⟨_, pss_cons (ps_set (i := 1) sc__law_kinds.nd rfl (by first | exact Or.inl rfl | exact Or.inr rfl) (pe_lst (pa_nil)))
      (pss_cons (ps_set (i := 1) sc__law_kinds.nd rfl (by first | exact Or.inl rfl | exact Or.inr rfl) (pe_op op_cat (pv 1) (pe_lst (pa_cons (pe_callB (call_isV K) (by rfl) T.z_isinstance (by decide +kernel) (pa_cons (pv 0) (pa_cons (pe_glob (v := .ref (He.ga K "NoNumber")) rfl T.g_NoNumber rfl) (pa_nil)))) (pa_cons (pe_callB (call_isV K) (by rfl) T.z_isinstance (by decide +kernel) (pa_cons (pv 0) (pa_cons (pe_glob (v := .ref (He.ga K "NoName")) rfl T.g_NoName rfl) (pa_nil)))) (pa_cons (pe_callB (call_isV K) (by rfl) T.z_isinstance (by decide +kernel) (pa_cons (pv 0) (pa_cons (pe_glob (v := .ref (He.ga K "NoValue")) rfl T.g_NoValue rfl) (pa_nil)))) (pa_nil)))))))
      (pss_cons (ps_set (i := 1) sc__law_kinds.nd rfl (by first | exact Or.inl rfl | exact Or.inr rfl) (pe_op op_cat (pv 1) (pe_lst (pa_cons (pe_callB (call_isV K) (by rfl) T.z_isinstance (by decide +kernel) (pa_cons (pv 0) (pa_cons (pe_glob (v := .ref (He.ga K "NoFrame")) rfl T.g_NoFrame rfl) (pa_nil)))) (pa_cons (pe_callB (call_isV K) (by rfl) T.z_isinstance (by decide +kernel) (pa_cons (pv 0) (pa_cons (pe_glob (v := .ref (He.ga K "Gone")) rfl T.g_Gone rfl) (pa_nil)))) (pa_cons (pe_callB (call_isV K) (by rfl) T.z_isinstance (by decide +kernel) (pa_cons (pv 0) (pa_cons (pe_glob (v := .ref (He.ga K "Ground")) rfl T.g_Ground rfl) (pa_nil)))) (pa_nil)))))))
      (pss_cons (ps_set (i := 1) sc__law_kinds.nd rfl (by first | exact Or.inl rfl | exact Or.inr rfl) (pe_op op_cat (pv 1) (pe_lst (pa_cons (pe_callB (call_isV K) (by rfl) T.z_isinstance (by decide +kernel) (pa_cons (pv 0) (pa_cons (pe_glob (v := .ref (He.ga K "TooMany")) rfl T.g_TooMany rfl) (pa_nil)))) (pa_cons (pe_callB (call_isV K) (by rfl) T.z_isinstance (by decide +kernel) (pa_cons (pv 0) (pa_cons (pe_glob (v := .ref (He.ga K "Full")) rfl T.g_Full rfl) (pa_nil)))) (pa_cons (pe_callB (call_isV K) (by rfl) T.z_isinstance (by decide +kernel) (pa_cons (pv 0) (pa_cons (pe_glob (v := .ref (He.ga K "NoWay")) rfl T.g_NoWay rfl) (pa_nil)))) (pa_nil)))))))
      (pss_cons (ps_set (i := 1) sc__law_kinds.nd rfl (by first | exact Or.inl rfl | exact Or.inr rfl) (pe_op op_cat (pv 1) (pe_lst (pa_cons (pe_callB (call_isV K) (by rfl) T.z_isinstance (by decide +kernel) (pa_cons (pv 0) (pa_cons (pe_glob (v := .ref (He.ga K "NoCell")) rfl T.g_NoCell rfl) (pa_nil)))) (pa_cons (pe_callB (call_isV K) (by rfl) T.z_isinstance (by decide +kernel) (pa_cons (pv 0) (pa_cons (pe_glob (v := .ref (He.ga K "NoHands")) rfl T.g_NoHands rfl) (pa_nil)))) (pa_cons (pe_callB (call_isV K) (by rfl) T.z_isinstance (by decide +kernel) (pa_cons (pv 0) (pa_cons (pe_glob (v := .ref (He.ga K "Kept")) rfl T.g_Kept rfl) (pa_nil)))) (pa_nil)))))))
      (pss_cons (ps_set (i := 1) sc__law_kinds.nd rfl (by first | exact Or.inl rfl | exact Or.inr rfl) (pe_op op_cat (pv 1) (pe_lst (pa_cons (pe_callB (call_isV K) (by rfl) T.z_isinstance (by decide +kernel) (pa_cons (pv 0) (pa_cons (pe_glob (v := .ref (He.ga K "NoDeed")) rfl T.g_NoDeed rfl) (pa_nil)))) (pa_cons (pe_callB (call_isV K) (by rfl) T.z_isinstance (by decide +kernel) (pa_cons (pv 0) (pa_cons (pe_glob (v := .ref (He.ga K "TooDeep")) rfl T.g_TooDeep rfl) (pa_nil)))) (pa_cons (pe_callB (call_isV K) (by rfl) T.z_isinstance (by decide +kernel) (pa_cons (pv 0) (pa_cons (pe_glob (v := .ref (He.ga K "TooWide")) rfl T.g_TooWide rfl) (pa_nil)))) (pa_nil)))))))
      (pss_cons (ps_set (i := 1) sc__law_kinds.nd rfl (by first | exact Or.inl rfl | exact Or.inr rfl) (pe_op op_cat (pv 1) (pe_lst (pa_cons (pe_callB (call_isV K) (by rfl) T.z_isinstance (by decide +kernel) (pa_cons (pv 0) (pa_cons (pe_glob (v := .ref (He.ga K "TooLong")) rfl T.g_TooLong rfl) (pa_nil)))) (pa_cons (pe_callB (call_isV K) (by rfl) T.z_isinstance (by decide +kernel) (pa_cons (pv 0) (pa_cons (pe_glob (v := .ref (He.ga K "Twice")) rfl T.g_Twice rfl) (pa_nil)))) (pa_cons (pe_callB (call_isV K) (by rfl) T.z_isinstance (by decide +kernel) (pa_cons (pv 0) (pa_cons (pe_glob (v := .ref (He.ga K "NoLabel")) rfl T.g_NoLabel rfl) (pa_nil)))) (pa_nil)))))))
      (pss_cons (ps_set (i := 1) sc__law_kinds.nd rfl (by first | exact Or.inl rfl | exact Or.inr rfl) (pe_op op_cat (pv 1) (pe_lst (pa_cons (pe_callB (call_isV K) (by rfl) T.z_isinstance (by decide +kernel) (pa_cons (pv 0) (pa_cons (pe_glob (v := .ref (He.ga K "NoChoices")) rfl T.g_NoChoices rfl) (pa_nil)))) (pa_cons (pe_callB (call_isV K) (by rfl) T.z_isinstance (by decide +kernel) (pa_cons (pv 0) (pa_cons (pe_glob (v := .ref (He.ga K "NoMaking")) rfl T.g_NoMaking rfl) (pa_nil)))) (pa_cons (pe_callB (call_isV K) (by rfl) T.z_isinstance (by decide +kernel) (pa_cons (pv 0) (pa_cons (pe_glob (v := .ref (He.ga K "NotStraight")) rfl T.g_NotStraight rfl) (pa_nil)))) (pa_nil)))))))
      (pss_cons (ps_set (i := 1) sc__law_kinds.nd rfl (by first | exact Or.inl rfl | exact Or.inr rfl) (pe_op op_cat (pv 1) (pe_lst (pa_cons (pe_callB (call_isV K) (by rfl) T.z_isinstance (by decide +kernel) (pa_cons (pv 0) (pa_cons (pe_glob (v := .ref (He.ga K "NoText")) rfl T.g_NoText rfl) (pa_nil)))) (pa_cons (pe_callB (call_isV K) (by rfl) T.z_isinstance (by decide +kernel) (pa_cons (pv 0) (pa_cons (pe_glob (v := .ref (He.ga K "NoManner")) rfl T.g_NoManner rfl) (pa_nil)))) (pa_cons (pe_callB (call_isV K) (by rfl) T.z_isinstance (by decide +kernel) (pa_cons (pv 0) (pa_cons (pe_glob (v := .ref (He.ga K "NoNames")) rfl T.g_NoNames rfl) (pa_nil)))) (pa_nil)))))))
      (pss_cons (ps_set (i := 1) sc__law_kinds.nd rfl (by first | exact Or.inl rfl | exact Or.inr rfl) (pe_op op_cat (pv 1) (pe_lst (pa_cons (pe_callB (call_isV K) (by rfl) T.z_isinstance (by decide +kernel) (pa_cons (pv 0) (pa_cons (pe_glob (v := .ref (He.ga K "NoLine")) rfl T.g_NoLine rfl) (pa_nil)))) (pa_cons (pe_callB (call_isV K) (by rfl) T.z_isinstance (by decide +kernel) (pa_cons (pv 0) (pa_cons (pe_glob (v := .ref (He.ga K "NoHouse")) rfl T.g_NoHouse rfl) (pa_nil)))) (pa_cons (pe_callB (call_isV K) (by rfl) T.z_isinstance (by decide +kernel) (pa_cons (pv 0) (pa_cons (pe_glob (v := .ref (He.ga K "NoProgram")) rfl T.g_NoProgram rfl) (pa_nil)))) (pa_nil)))))))
      (pss_one (ps_ret (pv 1)))))))))))), ?_⟩
    refine ⟨(by show 0 ≤ sizeLine; decide), fun l0 hl0 => ?_⟩
    have k0 := (Kp.refl (S := []) (H := H)).new (o := .lst []) hl0
    have e0 : upd H l0 (.lst []) l0 = some (.lst []) := upd_same
    have x0 := xv.kp fun b o e => k0 b o e (by simp)
    generalize upd H l0 (.lst []) = H0 at *
    walk_at "nx"
    refine ⟨_, rfl, _, rfl, a, He.ga K c, kvs, .ref (He.ga K "NoNumber"), _, _, rfl, x0, ex, (fun _ h => h), kt "NoNumber" (by decide +kernel), _, rfl, a, He.ga K c, kvs, .ref (He.ga K "NoName"), _, _, rfl, x0, ex, (fun _ h => h), kt "NoName" (by decide +kernel), _, rfl, a, He.ga K c, kvs, .ref (He.ga K "NoValue"), _, _, rfl, x0, ex, (fun _ h => h), kt "NoValue" (by decide +kernel), (by show 3 ≤ sizeLine; decide), fun m0 hm0 => ⟨l0, m0, [], [V.bl (decide (c = ("NoNumber" : Str))), V.bl (decide (c = ("NoName" : Str))), V.bl (decide (c = ("NoValue" : Str)))], rfl, rfl, ?_⟩⟩
    have e0' : upd H0 m0 (.lst [V.bl (decide (c = ("NoNumber" : Str))), V.bl (decide (c = ("NoName" : Str))), V.bl (decide (c = ("NoValue" : Str)))]) m0 = some (.lst [V.bl (decide (c = ("NoNumber" : Str))), V.bl (decide (c = ("NoName" : Str))), V.bl (decide (c = ("NoValue" : Str)))]) := upd_same
    have j0 := (Kp.refl (S := []) (H := H0)).new (o := .lst [V.bl (decide (c = ("NoNumber" : Str))), V.bl (decide (c = ("NoName" : Str))), V.bl (decide (c = ("NoValue" : Str)))]) hm0
    have f0 := j0 _ _ e0 (by simp)
    have y0 := x0.kp fun b o e => j0 b o e (by simp)
    generalize upd H0 m0 (.lst [V.bl (decide (c = ("NoNumber" : Str))), V.bl (decide (c = ("NoName" : Str))), V.bl (decide (c = ("NoValue" : Str)))]) = G0 at *
    refine ⟨f0, e0', (by show 0 + 3 ≤ sizeLine; decide), fun l1 hl1 => ?_⟩
    have i0 := (Kp.refl (S := []) (H := G0)).new (o := .lst ([] ++ [V.bl (decide (c = ("NoNumber" : Str))), V.bl (decide (c = ("NoName" : Str))), V.bl (decide (c = ("NoValue" : Str)))])) hl1
    have e1 : upd G0 l1 (.lst ([] ++ [V.bl (decide (c = ("NoNumber" : Str))), V.bl (decide (c = ("NoName" : Str))), V.bl (decide (c = ("NoValue" : Str)))])) l1 = some (.lst [V.bl (decide (c = ("NoNumber" : Str))), V.bl (decide (c = ("NoName" : Str))), V.bl (decide (c = ("NoValue" : Str)))]) := upd_same
    have k1 := (k0.trans j0).trans i0
    have hn1 : H l1 = none := (k0.trans j0).free hl1
    have x1 := y0.kp fun b o e => i0 b o e (by simp)
    generalize upd G0 l1 (.lst ([] ++ [V.bl (decide (c = ("NoNumber" : Str))), V.bl (decide (c = ("NoName" : Str))), V.bl (decide (c = ("NoValue" : Str)))])) = H1 at *
    walk_at "nx"
    refine ⟨_, rfl, _, rfl, a, He.ga K c, kvs, .ref (He.ga K "NoFrame"), _, _, rfl, x1, ex, (fun _ h => h), kt "NoFrame" (by decide +kernel), _, rfl, a, He.ga K c, kvs, .ref (He.ga K "Gone"), _, _, rfl, x1, ex, (fun _ h => h), kt "Gone" (by decide +kernel), _, rfl, a, He.ga K c, kvs, .ref (He.ga K "Ground"), _, _, rfl, x1, ex, (fun _ h => h), kt "Ground" (by decide +kernel), (by show 3 ≤ sizeLine; decide), fun m1 hm1 => ⟨l1, m1, [V.bl (decide (c = ("NoNumber" : Str))), V.bl (decide (c = ("NoName" : Str))), V.bl (decide (c = ("NoValue" : Str)))], [V.bl (decide (c = ("NoFrame" : Str))), V.bl (decide (c = ("Gone" : Str))), V.bl (decide (c = ("Ground" : Str)))], rfl, rfl, ?_⟩⟩
    have e1' : upd H1 m1 (.lst [V.bl (decide (c = ("NoFrame" : Str))), V.bl (decide (c = ("Gone" : Str))), V.bl (decide (c = ("Ground" : Str)))]) m1 = some (.lst [V.bl (decide (c = ("NoFrame" : Str))), V.bl (decide (c = ("Gone" : Str))), V.bl (decide (c = ("Ground" : Str)))]) := upd_same
    have j1 := (Kp.refl (S := []) (H := H1)).new (o := .lst [V.bl (decide (c = ("NoFrame" : Str))), V.bl (decide (c = ("Gone" : Str))), V.bl (decide (c = ("Ground" : Str)))]) hm1
    have f1 := j1 _ _ e1 (by simp)
    have y1 := x1.kp fun b o e => j1 b o e (by simp)
    generalize upd H1 m1 (.lst [V.bl (decide (c = ("NoFrame" : Str))), V.bl (decide (c = ("Gone" : Str))), V.bl (decide (c = ("Ground" : Str)))]) = G1 at *
    refine ⟨f1, e1', (by show 3 + 3 ≤ sizeLine; decide), fun l2 hl2 => ?_⟩
    have i1 := (Kp.refl (S := []) (H := G1)).new (o := .lst ([V.bl (decide (c = ("NoNumber" : Str))), V.bl (decide (c = ("NoName" : Str))), V.bl (decide (c = ("NoValue" : Str)))] ++ [V.bl (decide (c = ("NoFrame" : Str))), V.bl (decide (c = ("Gone" : Str))), V.bl (decide (c = ("Ground" : Str)))])) hl2
    have e2 : upd G1 l2 (.lst ([V.bl (decide (c = ("NoNumber" : Str))), V.bl (decide (c = ("NoName" : Str))), V.bl (decide (c = ("NoValue" : Str)))] ++ [V.bl (decide (c = ("NoFrame" : Str))), V.bl (decide (c = ("Gone" : Str))), V.bl (decide (c = ("Ground" : Str)))])) l2 = some (.lst [V.bl (decide (c = ("NoNumber" : Str))), V.bl (decide (c = ("NoName" : Str))), V.bl (decide (c = ("NoValue" : Str))), V.bl (decide (c = ("NoFrame" : Str))), V.bl (decide (c = ("Gone" : Str))), V.bl (decide (c = ("Ground" : Str)))]) := upd_same
    have k2 := (k1.trans j1).trans i1
    have hn2 : H l2 = none := (k1.trans j1).free hl2
    have x2 := y1.kp fun b o e => i1 b o e (by simp)
    generalize upd G1 l2 (.lst ([V.bl (decide (c = ("NoNumber" : Str))), V.bl (decide (c = ("NoName" : Str))), V.bl (decide (c = ("NoValue" : Str)))] ++ [V.bl (decide (c = ("NoFrame" : Str))), V.bl (decide (c = ("Gone" : Str))), V.bl (decide (c = ("Ground" : Str)))])) = H2 at *
    walk_at "nx"
    refine ⟨_, rfl, _, rfl, a, He.ga K c, kvs, .ref (He.ga K "TooMany"), _, _, rfl, x2, ex, (fun _ h => h), kt "TooMany" (by decide +kernel), _, rfl, a, He.ga K c, kvs, .ref (He.ga K "Full"), _, _, rfl, x2, ex, (fun _ h => h), kt "Full" (by decide +kernel), _, rfl, a, He.ga K c, kvs, .ref (He.ga K "NoWay"), _, _, rfl, x2, ex, (fun _ h => h), kt "NoWay" (by decide +kernel), (by show 3 ≤ sizeLine; decide), fun m2 hm2 => ⟨l2, m2, [V.bl (decide (c = ("NoNumber" : Str))), V.bl (decide (c = ("NoName" : Str))), V.bl (decide (c = ("NoValue" : Str))), V.bl (decide (c = ("NoFrame" : Str))), V.bl (decide (c = ("Gone" : Str))), V.bl (decide (c = ("Ground" : Str)))], [V.bl (decide (c = ("TooMany" : Str))), V.bl (decide (c = ("Full" : Str))), V.bl (decide (c = ("NoWay" : Str)))], rfl, rfl, ?_⟩⟩
    have e2' : upd H2 m2 (.lst [V.bl (decide (c = ("TooMany" : Str))), V.bl (decide (c = ("Full" : Str))), V.bl (decide (c = ("NoWay" : Str)))]) m2 = some (.lst [V.bl (decide (c = ("TooMany" : Str))), V.bl (decide (c = ("Full" : Str))), V.bl (decide (c = ("NoWay" : Str)))]) := upd_same
    have j2 := (Kp.refl (S := []) (H := H2)).new (o := .lst [V.bl (decide (c = ("TooMany" : Str))), V.bl (decide (c = ("Full" : Str))), V.bl (decide (c = ("NoWay" : Str)))]) hm2
    have f2 := j2 _ _ e2 (by simp)
    have y2 := x2.kp fun b o e => j2 b o e (by simp)
    generalize upd H2 m2 (.lst [V.bl (decide (c = ("TooMany" : Str))), V.bl (decide (c = ("Full" : Str))), V.bl (decide (c = ("NoWay" : Str)))]) = G2 at *
    refine ⟨f2, e2', (by show 6 + 3 ≤ sizeLine; decide), fun l3 hl3 => ?_⟩
    have i2 := (Kp.refl (S := []) (H := G2)).new (o := .lst ([V.bl (decide (c = ("NoNumber" : Str))), V.bl (decide (c = ("NoName" : Str))), V.bl (decide (c = ("NoValue" : Str))), V.bl (decide (c = ("NoFrame" : Str))), V.bl (decide (c = ("Gone" : Str))), V.bl (decide (c = ("Ground" : Str)))] ++ [V.bl (decide (c = ("TooMany" : Str))), V.bl (decide (c = ("Full" : Str))), V.bl (decide (c = ("NoWay" : Str)))])) hl3
    have e3 : upd G2 l3 (.lst ([V.bl (decide (c = ("NoNumber" : Str))), V.bl (decide (c = ("NoName" : Str))), V.bl (decide (c = ("NoValue" : Str))), V.bl (decide (c = ("NoFrame" : Str))), V.bl (decide (c = ("Gone" : Str))), V.bl (decide (c = ("Ground" : Str)))] ++ [V.bl (decide (c = ("TooMany" : Str))), V.bl (decide (c = ("Full" : Str))), V.bl (decide (c = ("NoWay" : Str)))])) l3 = some (.lst [V.bl (decide (c = ("NoNumber" : Str))), V.bl (decide (c = ("NoName" : Str))), V.bl (decide (c = ("NoValue" : Str))), V.bl (decide (c = ("NoFrame" : Str))), V.bl (decide (c = ("Gone" : Str))), V.bl (decide (c = ("Ground" : Str))), V.bl (decide (c = ("TooMany" : Str))), V.bl (decide (c = ("Full" : Str))), V.bl (decide (c = ("NoWay" : Str)))]) := upd_same
    have k3 := (k2.trans j2).trans i2
    have hn3 : H l3 = none := (k2.trans j2).free hl3
    have x3 := y2.kp fun b o e => i2 b o e (by simp)
    generalize upd G2 l3 (.lst ([V.bl (decide (c = ("NoNumber" : Str))), V.bl (decide (c = ("NoName" : Str))), V.bl (decide (c = ("NoValue" : Str))), V.bl (decide (c = ("NoFrame" : Str))), V.bl (decide (c = ("Gone" : Str))), V.bl (decide (c = ("Ground" : Str)))] ++ [V.bl (decide (c = ("TooMany" : Str))), V.bl (decide (c = ("Full" : Str))), V.bl (decide (c = ("NoWay" : Str)))])) = H3 at *
    walk_at "nx"
    refine ⟨_, rfl, _, rfl, a, He.ga K c, kvs, .ref (He.ga K "NoCell"), _, _, rfl, x3, ex, (fun _ h => h), kt "NoCell" (by decide +kernel), _, rfl, a, He.ga K c, kvs, .ref (He.ga K "NoHands"), _, _, rfl, x3, ex, (fun _ h => h), kt "NoHands" (by decide +kernel), _, rfl, a, He.ga K c, kvs, .ref (He.ga K "Kept"), _, _, rfl, x3, ex, (fun _ h => h), kt "Kept" (by decide +kernel), (by show 3 ≤ sizeLine; decide), fun m3 hm3 => ⟨l3, m3, [V.bl (decide (c = ("NoNumber" : Str))), V.bl (decide (c = ("NoName" : Str))), V.bl (decide (c = ("NoValue" : Str))), V.bl (decide (c = ("NoFrame" : Str))), V.bl (decide (c = ("Gone" : Str))), V.bl (decide (c = ("Ground" : Str))), V.bl (decide (c = ("TooMany" : Str))), V.bl (decide (c = ("Full" : Str))), V.bl (decide (c = ("NoWay" : Str)))], [V.bl (decide (c = ("NoCell" : Str))), V.bl (decide (c = ("NoHands" : Str))), V.bl (decide (c = ("Kept" : Str)))], rfl, rfl, ?_⟩⟩
    have e3' : upd H3 m3 (.lst [V.bl (decide (c = ("NoCell" : Str))), V.bl (decide (c = ("NoHands" : Str))), V.bl (decide (c = ("Kept" : Str)))]) m3 = some (.lst [V.bl (decide (c = ("NoCell" : Str))), V.bl (decide (c = ("NoHands" : Str))), V.bl (decide (c = ("Kept" : Str)))]) := upd_same
    have j3 := (Kp.refl (S := []) (H := H3)).new (o := .lst [V.bl (decide (c = ("NoCell" : Str))), V.bl (decide (c = ("NoHands" : Str))), V.bl (decide (c = ("Kept" : Str)))]) hm3
    have f3 := j3 _ _ e3 (by simp)
    have y3 := x3.kp fun b o e => j3 b o e (by simp)
    generalize upd H3 m3 (.lst [V.bl (decide (c = ("NoCell" : Str))), V.bl (decide (c = ("NoHands" : Str))), V.bl (decide (c = ("Kept" : Str)))]) = G3 at *
    refine ⟨f3, e3', (by show 9 + 3 ≤ sizeLine; decide), fun l4 hl4 => ?_⟩
    have i3 := (Kp.refl (S := []) (H := G3)).new (o := .lst ([V.bl (decide (c = ("NoNumber" : Str))), V.bl (decide (c = ("NoName" : Str))), V.bl (decide (c = ("NoValue" : Str))), V.bl (decide (c = ("NoFrame" : Str))), V.bl (decide (c = ("Gone" : Str))), V.bl (decide (c = ("Ground" : Str))), V.bl (decide (c = ("TooMany" : Str))), V.bl (decide (c = ("Full" : Str))), V.bl (decide (c = ("NoWay" : Str)))] ++ [V.bl (decide (c = ("NoCell" : Str))), V.bl (decide (c = ("NoHands" : Str))), V.bl (decide (c = ("Kept" : Str)))])) hl4
    have e4 : upd G3 l4 (.lst ([V.bl (decide (c = ("NoNumber" : Str))), V.bl (decide (c = ("NoName" : Str))), V.bl (decide (c = ("NoValue" : Str))), V.bl (decide (c = ("NoFrame" : Str))), V.bl (decide (c = ("Gone" : Str))), V.bl (decide (c = ("Ground" : Str))), V.bl (decide (c = ("TooMany" : Str))), V.bl (decide (c = ("Full" : Str))), V.bl (decide (c = ("NoWay" : Str)))] ++ [V.bl (decide (c = ("NoCell" : Str))), V.bl (decide (c = ("NoHands" : Str))), V.bl (decide (c = ("Kept" : Str)))])) l4 = some (.lst [V.bl (decide (c = ("NoNumber" : Str))), V.bl (decide (c = ("NoName" : Str))), V.bl (decide (c = ("NoValue" : Str))), V.bl (decide (c = ("NoFrame" : Str))), V.bl (decide (c = ("Gone" : Str))), V.bl (decide (c = ("Ground" : Str))), V.bl (decide (c = ("TooMany" : Str))), V.bl (decide (c = ("Full" : Str))), V.bl (decide (c = ("NoWay" : Str))), V.bl (decide (c = ("NoCell" : Str))), V.bl (decide (c = ("NoHands" : Str))), V.bl (decide (c = ("Kept" : Str)))]) := upd_same
    have k4 := (k3.trans j3).trans i3
    have hn4 : H l4 = none := (k3.trans j3).free hl4
    have x4 := y3.kp fun b o e => i3 b o e (by simp)
    generalize upd G3 l4 (.lst ([V.bl (decide (c = ("NoNumber" : Str))), V.bl (decide (c = ("NoName" : Str))), V.bl (decide (c = ("NoValue" : Str))), V.bl (decide (c = ("NoFrame" : Str))), V.bl (decide (c = ("Gone" : Str))), V.bl (decide (c = ("Ground" : Str))), V.bl (decide (c = ("TooMany" : Str))), V.bl (decide (c = ("Full" : Str))), V.bl (decide (c = ("NoWay" : Str)))] ++ [V.bl (decide (c = ("NoCell" : Str))), V.bl (decide (c = ("NoHands" : Str))), V.bl (decide (c = ("Kept" : Str)))])) = H4 at *
    walk_at "nx"
    refine ⟨_, rfl, _, rfl, a, He.ga K c, kvs, .ref (He.ga K "NoDeed"), _, _, rfl, x4, ex, (fun _ h => h), kt "NoDeed" (by decide +kernel), _, rfl, a, He.ga K c, kvs, .ref (He.ga K "TooDeep"), _, _, rfl, x4, ex, (fun _ h => h), kt "TooDeep" (by decide +kernel), _, rfl, a, He.ga K c, kvs, .ref (He.ga K "TooWide"), _, _, rfl, x4, ex, (fun _ h => h), kt "TooWide" (by decide +kernel), (by show 3 ≤ sizeLine; decide), fun m4 hm4 => ⟨l4, m4, [V.bl (decide (c = ("NoNumber" : Str))), V.bl (decide (c = ("NoName" : Str))), V.bl (decide (c = ("NoValue" : Str))), V.bl (decide (c = ("NoFrame" : Str))), V.bl (decide (c = ("Gone" : Str))), V.bl (decide (c = ("Ground" : Str))), V.bl (decide (c = ("TooMany" : Str))), V.bl (decide (c = ("Full" : Str))), V.bl (decide (c = ("NoWay" : Str))), V.bl (decide (c = ("NoCell" : Str))), V.bl (decide (c = ("NoHands" : Str))), V.bl (decide (c = ("Kept" : Str)))], [V.bl (decide (c = ("NoDeed" : Str))), V.bl (decide (c = ("TooDeep" : Str))), V.bl (decide (c = ("TooWide" : Str)))], rfl, rfl, ?_⟩⟩
    have e4' : upd H4 m4 (.lst [V.bl (decide (c = ("NoDeed" : Str))), V.bl (decide (c = ("TooDeep" : Str))), V.bl (decide (c = ("TooWide" : Str)))]) m4 = some (.lst [V.bl (decide (c = ("NoDeed" : Str))), V.bl (decide (c = ("TooDeep" : Str))), V.bl (decide (c = ("TooWide" : Str)))]) := upd_same
    have j4 := (Kp.refl (S := []) (H := H4)).new (o := .lst [V.bl (decide (c = ("NoDeed" : Str))), V.bl (decide (c = ("TooDeep" : Str))), V.bl (decide (c = ("TooWide" : Str)))]) hm4
    have f4 := j4 _ _ e4 (by simp)
    have y4 := x4.kp fun b o e => j4 b o e (by simp)
    generalize upd H4 m4 (.lst [V.bl (decide (c = ("NoDeed" : Str))), V.bl (decide (c = ("TooDeep" : Str))), V.bl (decide (c = ("TooWide" : Str)))]) = G4 at *
    refine ⟨f4, e4', (by show 12 + 3 ≤ sizeLine; decide), fun l5 hl5 => ?_⟩
    have i4 := (Kp.refl (S := []) (H := G4)).new (o := .lst ([V.bl (decide (c = ("NoNumber" : Str))), V.bl (decide (c = ("NoName" : Str))), V.bl (decide (c = ("NoValue" : Str))), V.bl (decide (c = ("NoFrame" : Str))), V.bl (decide (c = ("Gone" : Str))), V.bl (decide (c = ("Ground" : Str))), V.bl (decide (c = ("TooMany" : Str))), V.bl (decide (c = ("Full" : Str))), V.bl (decide (c = ("NoWay" : Str))), V.bl (decide (c = ("NoCell" : Str))), V.bl (decide (c = ("NoHands" : Str))), V.bl (decide (c = ("Kept" : Str)))] ++ [V.bl (decide (c = ("NoDeed" : Str))), V.bl (decide (c = ("TooDeep" : Str))), V.bl (decide (c = ("TooWide" : Str)))])) hl5
    have e5 : upd G4 l5 (.lst ([V.bl (decide (c = ("NoNumber" : Str))), V.bl (decide (c = ("NoName" : Str))), V.bl (decide (c = ("NoValue" : Str))), V.bl (decide (c = ("NoFrame" : Str))), V.bl (decide (c = ("Gone" : Str))), V.bl (decide (c = ("Ground" : Str))), V.bl (decide (c = ("TooMany" : Str))), V.bl (decide (c = ("Full" : Str))), V.bl (decide (c = ("NoWay" : Str))), V.bl (decide (c = ("NoCell" : Str))), V.bl (decide (c = ("NoHands" : Str))), V.bl (decide (c = ("Kept" : Str)))] ++ [V.bl (decide (c = ("NoDeed" : Str))), V.bl (decide (c = ("TooDeep" : Str))), V.bl (decide (c = ("TooWide" : Str)))])) l5 = some (.lst [V.bl (decide (c = ("NoNumber" : Str))), V.bl (decide (c = ("NoName" : Str))), V.bl (decide (c = ("NoValue" : Str))), V.bl (decide (c = ("NoFrame" : Str))), V.bl (decide (c = ("Gone" : Str))), V.bl (decide (c = ("Ground" : Str))), V.bl (decide (c = ("TooMany" : Str))), V.bl (decide (c = ("Full" : Str))), V.bl (decide (c = ("NoWay" : Str))), V.bl (decide (c = ("NoCell" : Str))), V.bl (decide (c = ("NoHands" : Str))), V.bl (decide (c = ("Kept" : Str))), V.bl (decide (c = ("NoDeed" : Str))), V.bl (decide (c = ("TooDeep" : Str))), V.bl (decide (c = ("TooWide" : Str)))]) := upd_same
    have k5 := (k4.trans j4).trans i4
    have hn5 : H l5 = none := (k4.trans j4).free hl5
    have x5 := y4.kp fun b o e => i4 b o e (by simp)
    generalize upd G4 l5 (.lst ([V.bl (decide (c = ("NoNumber" : Str))), V.bl (decide (c = ("NoName" : Str))), V.bl (decide (c = ("NoValue" : Str))), V.bl (decide (c = ("NoFrame" : Str))), V.bl (decide (c = ("Gone" : Str))), V.bl (decide (c = ("Ground" : Str))), V.bl (decide (c = ("TooMany" : Str))), V.bl (decide (c = ("Full" : Str))), V.bl (decide (c = ("NoWay" : Str))), V.bl (decide (c = ("NoCell" : Str))), V.bl (decide (c = ("NoHands" : Str))), V.bl (decide (c = ("Kept" : Str)))] ++ [V.bl (decide (c = ("NoDeed" : Str))), V.bl (decide (c = ("TooDeep" : Str))), V.bl (decide (c = ("TooWide" : Str)))])) = H5 at *
    walk_at "nx"
    refine ⟨_, rfl, _, rfl, a, He.ga K c, kvs, .ref (He.ga K "TooLong"), _, _, rfl, x5, ex, (fun _ h => h), kt "TooLong" (by decide +kernel), _, rfl, a, He.ga K c, kvs, .ref (He.ga K "Twice"), _, _, rfl, x5, ex, (fun _ h => h), kt "Twice" (by decide +kernel), _, rfl, a, He.ga K c, kvs, .ref (He.ga K "NoLabel"), _, _, rfl, x5, ex, (fun _ h => h), kt "NoLabel" (by decide +kernel), (by show 3 ≤ sizeLine; decide), fun m5 hm5 => ⟨l5, m5, [V.bl (decide (c = ("NoNumber" : Str))), V.bl (decide (c = ("NoName" : Str))), V.bl (decide (c = ("NoValue" : Str))), V.bl (decide (c = ("NoFrame" : Str))), V.bl (decide (c = ("Gone" : Str))), V.bl (decide (c = ("Ground" : Str))), V.bl (decide (c = ("TooMany" : Str))), V.bl (decide (c = ("Full" : Str))), V.bl (decide (c = ("NoWay" : Str))), V.bl (decide (c = ("NoCell" : Str))), V.bl (decide (c = ("NoHands" : Str))), V.bl (decide (c = ("Kept" : Str))), V.bl (decide (c = ("NoDeed" : Str))), V.bl (decide (c = ("TooDeep" : Str))), V.bl (decide (c = ("TooWide" : Str)))], [V.bl (decide (c = ("TooLong" : Str))), V.bl (decide (c = ("Twice" : Str))), V.bl (decide (c = ("NoLabel" : Str)))], rfl, rfl, ?_⟩⟩
    have e5' : upd H5 m5 (.lst [V.bl (decide (c = ("TooLong" : Str))), V.bl (decide (c = ("Twice" : Str))), V.bl (decide (c = ("NoLabel" : Str)))]) m5 = some (.lst [V.bl (decide (c = ("TooLong" : Str))), V.bl (decide (c = ("Twice" : Str))), V.bl (decide (c = ("NoLabel" : Str)))]) := upd_same
    have j5 := (Kp.refl (S := []) (H := H5)).new (o := .lst [V.bl (decide (c = ("TooLong" : Str))), V.bl (decide (c = ("Twice" : Str))), V.bl (decide (c = ("NoLabel" : Str)))]) hm5
    have f5 := j5 _ _ e5 (by simp)
    have y5 := x5.kp fun b o e => j5 b o e (by simp)
    generalize upd H5 m5 (.lst [V.bl (decide (c = ("TooLong" : Str))), V.bl (decide (c = ("Twice" : Str))), V.bl (decide (c = ("NoLabel" : Str)))]) = G5 at *
    refine ⟨f5, e5', (by show 15 + 3 ≤ sizeLine; decide), fun l6 hl6 => ?_⟩
    have i5 := (Kp.refl (S := []) (H := G5)).new (o := .lst ([V.bl (decide (c = ("NoNumber" : Str))), V.bl (decide (c = ("NoName" : Str))), V.bl (decide (c = ("NoValue" : Str))), V.bl (decide (c = ("NoFrame" : Str))), V.bl (decide (c = ("Gone" : Str))), V.bl (decide (c = ("Ground" : Str))), V.bl (decide (c = ("TooMany" : Str))), V.bl (decide (c = ("Full" : Str))), V.bl (decide (c = ("NoWay" : Str))), V.bl (decide (c = ("NoCell" : Str))), V.bl (decide (c = ("NoHands" : Str))), V.bl (decide (c = ("Kept" : Str))), V.bl (decide (c = ("NoDeed" : Str))), V.bl (decide (c = ("TooDeep" : Str))), V.bl (decide (c = ("TooWide" : Str)))] ++ [V.bl (decide (c = ("TooLong" : Str))), V.bl (decide (c = ("Twice" : Str))), V.bl (decide (c = ("NoLabel" : Str)))])) hl6
    have e6 : upd G5 l6 (.lst ([V.bl (decide (c = ("NoNumber" : Str))), V.bl (decide (c = ("NoName" : Str))), V.bl (decide (c = ("NoValue" : Str))), V.bl (decide (c = ("NoFrame" : Str))), V.bl (decide (c = ("Gone" : Str))), V.bl (decide (c = ("Ground" : Str))), V.bl (decide (c = ("TooMany" : Str))), V.bl (decide (c = ("Full" : Str))), V.bl (decide (c = ("NoWay" : Str))), V.bl (decide (c = ("NoCell" : Str))), V.bl (decide (c = ("NoHands" : Str))), V.bl (decide (c = ("Kept" : Str))), V.bl (decide (c = ("NoDeed" : Str))), V.bl (decide (c = ("TooDeep" : Str))), V.bl (decide (c = ("TooWide" : Str)))] ++ [V.bl (decide (c = ("TooLong" : Str))), V.bl (decide (c = ("Twice" : Str))), V.bl (decide (c = ("NoLabel" : Str)))])) l6 = some (.lst [V.bl (decide (c = ("NoNumber" : Str))), V.bl (decide (c = ("NoName" : Str))), V.bl (decide (c = ("NoValue" : Str))), V.bl (decide (c = ("NoFrame" : Str))), V.bl (decide (c = ("Gone" : Str))), V.bl (decide (c = ("Ground" : Str))), V.bl (decide (c = ("TooMany" : Str))), V.bl (decide (c = ("Full" : Str))), V.bl (decide (c = ("NoWay" : Str))), V.bl (decide (c = ("NoCell" : Str))), V.bl (decide (c = ("NoHands" : Str))), V.bl (decide (c = ("Kept" : Str))), V.bl (decide (c = ("NoDeed" : Str))), V.bl (decide (c = ("TooDeep" : Str))), V.bl (decide (c = ("TooWide" : Str))), V.bl (decide (c = ("TooLong" : Str))), V.bl (decide (c = ("Twice" : Str))), V.bl (decide (c = ("NoLabel" : Str)))]) := upd_same
    have k6 := (k5.trans j5).trans i5
    have hn6 : H l6 = none := (k5.trans j5).free hl6
    have x6 := y5.kp fun b o e => i5 b o e (by simp)
    generalize upd G5 l6 (.lst ([V.bl (decide (c = ("NoNumber" : Str))), V.bl (decide (c = ("NoName" : Str))), V.bl (decide (c = ("NoValue" : Str))), V.bl (decide (c = ("NoFrame" : Str))), V.bl (decide (c = ("Gone" : Str))), V.bl (decide (c = ("Ground" : Str))), V.bl (decide (c = ("TooMany" : Str))), V.bl (decide (c = ("Full" : Str))), V.bl (decide (c = ("NoWay" : Str))), V.bl (decide (c = ("NoCell" : Str))), V.bl (decide (c = ("NoHands" : Str))), V.bl (decide (c = ("Kept" : Str))), V.bl (decide (c = ("NoDeed" : Str))), V.bl (decide (c = ("TooDeep" : Str))), V.bl (decide (c = ("TooWide" : Str)))] ++ [V.bl (decide (c = ("TooLong" : Str))), V.bl (decide (c = ("Twice" : Str))), V.bl (decide (c = ("NoLabel" : Str)))])) = H6 at *
    walk_at "nx"
    refine ⟨_, rfl, _, rfl, a, He.ga K c, kvs, .ref (He.ga K "NoChoices"), _, _, rfl, x6, ex, (fun _ h => h), kt "NoChoices" (by decide +kernel), _, rfl, a, He.ga K c, kvs, .ref (He.ga K "NoMaking"), _, _, rfl, x6, ex, (fun _ h => h), kt "NoMaking" (by decide +kernel), _, rfl, a, He.ga K c, kvs, .ref (He.ga K "NotStraight"), _, _, rfl, x6, ex, (fun _ h => h), kt "NotStraight" (by decide +kernel), (by show 3 ≤ sizeLine; decide), fun m6 hm6 => ⟨l6, m6, [V.bl (decide (c = ("NoNumber" : Str))), V.bl (decide (c = ("NoName" : Str))), V.bl (decide (c = ("NoValue" : Str))), V.bl (decide (c = ("NoFrame" : Str))), V.bl (decide (c = ("Gone" : Str))), V.bl (decide (c = ("Ground" : Str))), V.bl (decide (c = ("TooMany" : Str))), V.bl (decide (c = ("Full" : Str))), V.bl (decide (c = ("NoWay" : Str))), V.bl (decide (c = ("NoCell" : Str))), V.bl (decide (c = ("NoHands" : Str))), V.bl (decide (c = ("Kept" : Str))), V.bl (decide (c = ("NoDeed" : Str))), V.bl (decide (c = ("TooDeep" : Str))), V.bl (decide (c = ("TooWide" : Str))), V.bl (decide (c = ("TooLong" : Str))), V.bl (decide (c = ("Twice" : Str))), V.bl (decide (c = ("NoLabel" : Str)))], [V.bl (decide (c = ("NoChoices" : Str))), V.bl (decide (c = ("NoMaking" : Str))), V.bl (decide (c = ("NotStraight" : Str)))], rfl, rfl, ?_⟩⟩
    have e6' : upd H6 m6 (.lst [V.bl (decide (c = ("NoChoices" : Str))), V.bl (decide (c = ("NoMaking" : Str))), V.bl (decide (c = ("NotStraight" : Str)))]) m6 = some (.lst [V.bl (decide (c = ("NoChoices" : Str))), V.bl (decide (c = ("NoMaking" : Str))), V.bl (decide (c = ("NotStraight" : Str)))]) := upd_same
    have j6 := (Kp.refl (S := []) (H := H6)).new (o := .lst [V.bl (decide (c = ("NoChoices" : Str))), V.bl (decide (c = ("NoMaking" : Str))), V.bl (decide (c = ("NotStraight" : Str)))]) hm6
    have f6 := j6 _ _ e6 (by simp)
    have y6 := x6.kp fun b o e => j6 b o e (by simp)
    generalize upd H6 m6 (.lst [V.bl (decide (c = ("NoChoices" : Str))), V.bl (decide (c = ("NoMaking" : Str))), V.bl (decide (c = ("NotStraight" : Str)))]) = G6 at *
    refine ⟨f6, e6', (by show 18 + 3 ≤ sizeLine; decide), fun l7 hl7 => ?_⟩
    have i6 := (Kp.refl (S := []) (H := G6)).new (o := .lst ([V.bl (decide (c = ("NoNumber" : Str))), V.bl (decide (c = ("NoName" : Str))), V.bl (decide (c = ("NoValue" : Str))), V.bl (decide (c = ("NoFrame" : Str))), V.bl (decide (c = ("Gone" : Str))), V.bl (decide (c = ("Ground" : Str))), V.bl (decide (c = ("TooMany" : Str))), V.bl (decide (c = ("Full" : Str))), V.bl (decide (c = ("NoWay" : Str))), V.bl (decide (c = ("NoCell" : Str))), V.bl (decide (c = ("NoHands" : Str))), V.bl (decide (c = ("Kept" : Str))), V.bl (decide (c = ("NoDeed" : Str))), V.bl (decide (c = ("TooDeep" : Str))), V.bl (decide (c = ("TooWide" : Str))), V.bl (decide (c = ("TooLong" : Str))), V.bl (decide (c = ("Twice" : Str))), V.bl (decide (c = ("NoLabel" : Str)))] ++ [V.bl (decide (c = ("NoChoices" : Str))), V.bl (decide (c = ("NoMaking" : Str))), V.bl (decide (c = ("NotStraight" : Str)))])) hl7
    have e7 : upd G6 l7 (.lst ([V.bl (decide (c = ("NoNumber" : Str))), V.bl (decide (c = ("NoName" : Str))), V.bl (decide (c = ("NoValue" : Str))), V.bl (decide (c = ("NoFrame" : Str))), V.bl (decide (c = ("Gone" : Str))), V.bl (decide (c = ("Ground" : Str))), V.bl (decide (c = ("TooMany" : Str))), V.bl (decide (c = ("Full" : Str))), V.bl (decide (c = ("NoWay" : Str))), V.bl (decide (c = ("NoCell" : Str))), V.bl (decide (c = ("NoHands" : Str))), V.bl (decide (c = ("Kept" : Str))), V.bl (decide (c = ("NoDeed" : Str))), V.bl (decide (c = ("TooDeep" : Str))), V.bl (decide (c = ("TooWide" : Str))), V.bl (decide (c = ("TooLong" : Str))), V.bl (decide (c = ("Twice" : Str))), V.bl (decide (c = ("NoLabel" : Str)))] ++ [V.bl (decide (c = ("NoChoices" : Str))), V.bl (decide (c = ("NoMaking" : Str))), V.bl (decide (c = ("NotStraight" : Str)))])) l7 = some (.lst [V.bl (decide (c = ("NoNumber" : Str))), V.bl (decide (c = ("NoName" : Str))), V.bl (decide (c = ("NoValue" : Str))), V.bl (decide (c = ("NoFrame" : Str))), V.bl (decide (c = ("Gone" : Str))), V.bl (decide (c = ("Ground" : Str))), V.bl (decide (c = ("TooMany" : Str))), V.bl (decide (c = ("Full" : Str))), V.bl (decide (c = ("NoWay" : Str))), V.bl (decide (c = ("NoCell" : Str))), V.bl (decide (c = ("NoHands" : Str))), V.bl (decide (c = ("Kept" : Str))), V.bl (decide (c = ("NoDeed" : Str))), V.bl (decide (c = ("TooDeep" : Str))), V.bl (decide (c = ("TooWide" : Str))), V.bl (decide (c = ("TooLong" : Str))), V.bl (decide (c = ("Twice" : Str))), V.bl (decide (c = ("NoLabel" : Str))), V.bl (decide (c = ("NoChoices" : Str))), V.bl (decide (c = ("NoMaking" : Str))), V.bl (decide (c = ("NotStraight" : Str)))]) := upd_same
    have k7 := (k6.trans j6).trans i6
    have hn7 : H l7 = none := (k6.trans j6).free hl7
    have x7 := y6.kp fun b o e => i6 b o e (by simp)
    generalize upd G6 l7 (.lst ([V.bl (decide (c = ("NoNumber" : Str))), V.bl (decide (c = ("NoName" : Str))), V.bl (decide (c = ("NoValue" : Str))), V.bl (decide (c = ("NoFrame" : Str))), V.bl (decide (c = ("Gone" : Str))), V.bl (decide (c = ("Ground" : Str))), V.bl (decide (c = ("TooMany" : Str))), V.bl (decide (c = ("Full" : Str))), V.bl (decide (c = ("NoWay" : Str))), V.bl (decide (c = ("NoCell" : Str))), V.bl (decide (c = ("NoHands" : Str))), V.bl (decide (c = ("Kept" : Str))), V.bl (decide (c = ("NoDeed" : Str))), V.bl (decide (c = ("TooDeep" : Str))), V.bl (decide (c = ("TooWide" : Str))), V.bl (decide (c = ("TooLong" : Str))), V.bl (decide (c = ("Twice" : Str))), V.bl (decide (c = ("NoLabel" : Str)))] ++ [V.bl (decide (c = ("NoChoices" : Str))), V.bl (decide (c = ("NoMaking" : Str))), V.bl (decide (c = ("NotStraight" : Str)))])) = H7 at *
    walk_at "nx"
    refine ⟨_, rfl, _, rfl, a, He.ga K c, kvs, .ref (He.ga K "NoText"), _, _, rfl, x7, ex, (fun _ h => h), kt "NoText" (by decide +kernel), _, rfl, a, He.ga K c, kvs, .ref (He.ga K "NoManner"), _, _, rfl, x7, ex, (fun _ h => h), kt "NoManner" (by decide +kernel), _, rfl, a, He.ga K c, kvs, .ref (He.ga K "NoNames"), _, _, rfl, x7, ex, (fun _ h => h), kt "NoNames" (by decide +kernel), (by show 3 ≤ sizeLine; decide), fun m7 hm7 => ⟨l7, m7, [V.bl (decide (c = ("NoNumber" : Str))), V.bl (decide (c = ("NoName" : Str))), V.bl (decide (c = ("NoValue" : Str))), V.bl (decide (c = ("NoFrame" : Str))), V.bl (decide (c = ("Gone" : Str))), V.bl (decide (c = ("Ground" : Str))), V.bl (decide (c = ("TooMany" : Str))), V.bl (decide (c = ("Full" : Str))), V.bl (decide (c = ("NoWay" : Str))), V.bl (decide (c = ("NoCell" : Str))), V.bl (decide (c = ("NoHands" : Str))), V.bl (decide (c = ("Kept" : Str))), V.bl (decide (c = ("NoDeed" : Str))), V.bl (decide (c = ("TooDeep" : Str))), V.bl (decide (c = ("TooWide" : Str))), V.bl (decide (c = ("TooLong" : Str))), V.bl (decide (c = ("Twice" : Str))), V.bl (decide (c = ("NoLabel" : Str))), V.bl (decide (c = ("NoChoices" : Str))), V.bl (decide (c = ("NoMaking" : Str))), V.bl (decide (c = ("NotStraight" : Str)))], [V.bl (decide (c = ("NoText" : Str))), V.bl (decide (c = ("NoManner" : Str))), V.bl (decide (c = ("NoNames" : Str)))], rfl, rfl, ?_⟩⟩
    have e7' : upd H7 m7 (.lst [V.bl (decide (c = ("NoText" : Str))), V.bl (decide (c = ("NoManner" : Str))), V.bl (decide (c = ("NoNames" : Str)))]) m7 = some (.lst [V.bl (decide (c = ("NoText" : Str))), V.bl (decide (c = ("NoManner" : Str))), V.bl (decide (c = ("NoNames" : Str)))]) := upd_same
    have j7 := (Kp.refl (S := []) (H := H7)).new (o := .lst [V.bl (decide (c = ("NoText" : Str))), V.bl (decide (c = ("NoManner" : Str))), V.bl (decide (c = ("NoNames" : Str)))]) hm7
    have f7 := j7 _ _ e7 (by simp)
    have y7 := x7.kp fun b o e => j7 b o e (by simp)
    generalize upd H7 m7 (.lst [V.bl (decide (c = ("NoText" : Str))), V.bl (decide (c = ("NoManner" : Str))), V.bl (decide (c = ("NoNames" : Str)))]) = G7 at *
    refine ⟨f7, e7', (by show 21 + 3 ≤ sizeLine; decide), fun l8 hl8 => ?_⟩
    have i7 := (Kp.refl (S := []) (H := G7)).new (o := .lst ([V.bl (decide (c = ("NoNumber" : Str))), V.bl (decide (c = ("NoName" : Str))), V.bl (decide (c = ("NoValue" : Str))), V.bl (decide (c = ("NoFrame" : Str))), V.bl (decide (c = ("Gone" : Str))), V.bl (decide (c = ("Ground" : Str))), V.bl (decide (c = ("TooMany" : Str))), V.bl (decide (c = ("Full" : Str))), V.bl (decide (c = ("NoWay" : Str))), V.bl (decide (c = ("NoCell" : Str))), V.bl (decide (c = ("NoHands" : Str))), V.bl (decide (c = ("Kept" : Str))), V.bl (decide (c = ("NoDeed" : Str))), V.bl (decide (c = ("TooDeep" : Str))), V.bl (decide (c = ("TooWide" : Str))), V.bl (decide (c = ("TooLong" : Str))), V.bl (decide (c = ("Twice" : Str))), V.bl (decide (c = ("NoLabel" : Str))), V.bl (decide (c = ("NoChoices" : Str))), V.bl (decide (c = ("NoMaking" : Str))), V.bl (decide (c = ("NotStraight" : Str)))] ++ [V.bl (decide (c = ("NoText" : Str))), V.bl (decide (c = ("NoManner" : Str))), V.bl (decide (c = ("NoNames" : Str)))])) hl8
    have e8 : upd G7 l8 (.lst ([V.bl (decide (c = ("NoNumber" : Str))), V.bl (decide (c = ("NoName" : Str))), V.bl (decide (c = ("NoValue" : Str))), V.bl (decide (c = ("NoFrame" : Str))), V.bl (decide (c = ("Gone" : Str))), V.bl (decide (c = ("Ground" : Str))), V.bl (decide (c = ("TooMany" : Str))), V.bl (decide (c = ("Full" : Str))), V.bl (decide (c = ("NoWay" : Str))), V.bl (decide (c = ("NoCell" : Str))), V.bl (decide (c = ("NoHands" : Str))), V.bl (decide (c = ("Kept" : Str))), V.bl (decide (c = ("NoDeed" : Str))), V.bl (decide (c = ("TooDeep" : Str))), V.bl (decide (c = ("TooWide" : Str))), V.bl (decide (c = ("TooLong" : Str))), V.bl (decide (c = ("Twice" : Str))), V.bl (decide (c = ("NoLabel" : Str))), V.bl (decide (c = ("NoChoices" : Str))), V.bl (decide (c = ("NoMaking" : Str))), V.bl (decide (c = ("NotStraight" : Str)))] ++ [V.bl (decide (c = ("NoText" : Str))), V.bl (decide (c = ("NoManner" : Str))), V.bl (decide (c = ("NoNames" : Str)))])) l8 = some (.lst [V.bl (decide (c = ("NoNumber" : Str))), V.bl (decide (c = ("NoName" : Str))), V.bl (decide (c = ("NoValue" : Str))), V.bl (decide (c = ("NoFrame" : Str))), V.bl (decide (c = ("Gone" : Str))), V.bl (decide (c = ("Ground" : Str))), V.bl (decide (c = ("TooMany" : Str))), V.bl (decide (c = ("Full" : Str))), V.bl (decide (c = ("NoWay" : Str))), V.bl (decide (c = ("NoCell" : Str))), V.bl (decide (c = ("NoHands" : Str))), V.bl (decide (c = ("Kept" : Str))), V.bl (decide (c = ("NoDeed" : Str))), V.bl (decide (c = ("TooDeep" : Str))), V.bl (decide (c = ("TooWide" : Str))), V.bl (decide (c = ("TooLong" : Str))), V.bl (decide (c = ("Twice" : Str))), V.bl (decide (c = ("NoLabel" : Str))), V.bl (decide (c = ("NoChoices" : Str))), V.bl (decide (c = ("NoMaking" : Str))), V.bl (decide (c = ("NotStraight" : Str))), V.bl (decide (c = ("NoText" : Str))), V.bl (decide (c = ("NoManner" : Str))), V.bl (decide (c = ("NoNames" : Str)))]) := upd_same
    have k8 := (k7.trans j7).trans i7
    have hn8 : H l8 = none := (k7.trans j7).free hl8
    have x8 := y7.kp fun b o e => i7 b o e (by simp)
    generalize upd G7 l8 (.lst ([V.bl (decide (c = ("NoNumber" : Str))), V.bl (decide (c = ("NoName" : Str))), V.bl (decide (c = ("NoValue" : Str))), V.bl (decide (c = ("NoFrame" : Str))), V.bl (decide (c = ("Gone" : Str))), V.bl (decide (c = ("Ground" : Str))), V.bl (decide (c = ("TooMany" : Str))), V.bl (decide (c = ("Full" : Str))), V.bl (decide (c = ("NoWay" : Str))), V.bl (decide (c = ("NoCell" : Str))), V.bl (decide (c = ("NoHands" : Str))), V.bl (decide (c = ("Kept" : Str))), V.bl (decide (c = ("NoDeed" : Str))), V.bl (decide (c = ("TooDeep" : Str))), V.bl (decide (c = ("TooWide" : Str))), V.bl (decide (c = ("TooLong" : Str))), V.bl (decide (c = ("Twice" : Str))), V.bl (decide (c = ("NoLabel" : Str))), V.bl (decide (c = ("NoChoices" : Str))), V.bl (decide (c = ("NoMaking" : Str))), V.bl (decide (c = ("NotStraight" : Str)))] ++ [V.bl (decide (c = ("NoText" : Str))), V.bl (decide (c = ("NoManner" : Str))), V.bl (decide (c = ("NoNames" : Str)))])) = H8 at *
    walk_at "nx"
    refine ⟨_, rfl, _, rfl, a, He.ga K c, kvs, .ref (He.ga K "NoLine"), _, _, rfl, x8, ex, (fun _ h => h), kt "NoLine" (by decide +kernel), _, rfl, a, He.ga K c, kvs, .ref (He.ga K "NoHouse"), _, _, rfl, x8, ex, (fun _ h => h), kt "NoHouse" (by decide +kernel), _, rfl, a, He.ga K c, kvs, .ref (He.ga K "NoProgram"), _, _, rfl, x8, ex, (fun _ h => h), kt "NoProgram" (by decide +kernel), (by show 3 ≤ sizeLine; decide), fun m8 hm8 => ⟨l8, m8, [V.bl (decide (c = ("NoNumber" : Str))), V.bl (decide (c = ("NoName" : Str))), V.bl (decide (c = ("NoValue" : Str))), V.bl (decide (c = ("NoFrame" : Str))), V.bl (decide (c = ("Gone" : Str))), V.bl (decide (c = ("Ground" : Str))), V.bl (decide (c = ("TooMany" : Str))), V.bl (decide (c = ("Full" : Str))), V.bl (decide (c = ("NoWay" : Str))), V.bl (decide (c = ("NoCell" : Str))), V.bl (decide (c = ("NoHands" : Str))), V.bl (decide (c = ("Kept" : Str))), V.bl (decide (c = ("NoDeed" : Str))), V.bl (decide (c = ("TooDeep" : Str))), V.bl (decide (c = ("TooWide" : Str))), V.bl (decide (c = ("TooLong" : Str))), V.bl (decide (c = ("Twice" : Str))), V.bl (decide (c = ("NoLabel" : Str))), V.bl (decide (c = ("NoChoices" : Str))), V.bl (decide (c = ("NoMaking" : Str))), V.bl (decide (c = ("NotStraight" : Str))), V.bl (decide (c = ("NoText" : Str))), V.bl (decide (c = ("NoManner" : Str))), V.bl (decide (c = ("NoNames" : Str)))], [V.bl (decide (c = ("NoLine" : Str))), V.bl (decide (c = ("NoHouse" : Str))), V.bl (decide (c = ("NoProgram" : Str)))], rfl, rfl, ?_⟩⟩
    have e8' : upd H8 m8 (.lst [V.bl (decide (c = ("NoLine" : Str))), V.bl (decide (c = ("NoHouse" : Str))), V.bl (decide (c = ("NoProgram" : Str)))]) m8 = some (.lst [V.bl (decide (c = ("NoLine" : Str))), V.bl (decide (c = ("NoHouse" : Str))), V.bl (decide (c = ("NoProgram" : Str)))]) := upd_same
    have j8 := (Kp.refl (S := []) (H := H8)).new (o := .lst [V.bl (decide (c = ("NoLine" : Str))), V.bl (decide (c = ("NoHouse" : Str))), V.bl (decide (c = ("NoProgram" : Str)))]) hm8
    have f8 := j8 _ _ e8 (by simp)
    have y8 := x8.kp fun b o e => j8 b o e (by simp)
    generalize upd H8 m8 (.lst [V.bl (decide (c = ("NoLine" : Str))), V.bl (decide (c = ("NoHouse" : Str))), V.bl (decide (c = ("NoProgram" : Str)))]) = G8 at *
    refine ⟨f8, e8', (by show 24 + 3 ≤ sizeLine; decide), fun l9 hl9 => ?_⟩
    have i8 := (Kp.refl (S := []) (H := G8)).new (o := .lst ([V.bl (decide (c = ("NoNumber" : Str))), V.bl (decide (c = ("NoName" : Str))), V.bl (decide (c = ("NoValue" : Str))), V.bl (decide (c = ("NoFrame" : Str))), V.bl (decide (c = ("Gone" : Str))), V.bl (decide (c = ("Ground" : Str))), V.bl (decide (c = ("TooMany" : Str))), V.bl (decide (c = ("Full" : Str))), V.bl (decide (c = ("NoWay" : Str))), V.bl (decide (c = ("NoCell" : Str))), V.bl (decide (c = ("NoHands" : Str))), V.bl (decide (c = ("Kept" : Str))), V.bl (decide (c = ("NoDeed" : Str))), V.bl (decide (c = ("TooDeep" : Str))), V.bl (decide (c = ("TooWide" : Str))), V.bl (decide (c = ("TooLong" : Str))), V.bl (decide (c = ("Twice" : Str))), V.bl (decide (c = ("NoLabel" : Str))), V.bl (decide (c = ("NoChoices" : Str))), V.bl (decide (c = ("NoMaking" : Str))), V.bl (decide (c = ("NotStraight" : Str))), V.bl (decide (c = ("NoText" : Str))), V.bl (decide (c = ("NoManner" : Str))), V.bl (decide (c = ("NoNames" : Str)))] ++ [V.bl (decide (c = ("NoLine" : Str))), V.bl (decide (c = ("NoHouse" : Str))), V.bl (decide (c = ("NoProgram" : Str)))])) hl9
    have e9 : upd G8 l9 (.lst ([V.bl (decide (c = ("NoNumber" : Str))), V.bl (decide (c = ("NoName" : Str))), V.bl (decide (c = ("NoValue" : Str))), V.bl (decide (c = ("NoFrame" : Str))), V.bl (decide (c = ("Gone" : Str))), V.bl (decide (c = ("Ground" : Str))), V.bl (decide (c = ("TooMany" : Str))), V.bl (decide (c = ("Full" : Str))), V.bl (decide (c = ("NoWay" : Str))), V.bl (decide (c = ("NoCell" : Str))), V.bl (decide (c = ("NoHands" : Str))), V.bl (decide (c = ("Kept" : Str))), V.bl (decide (c = ("NoDeed" : Str))), V.bl (decide (c = ("TooDeep" : Str))), V.bl (decide (c = ("TooWide" : Str))), V.bl (decide (c = ("TooLong" : Str))), V.bl (decide (c = ("Twice" : Str))), V.bl (decide (c = ("NoLabel" : Str))), V.bl (decide (c = ("NoChoices" : Str))), V.bl (decide (c = ("NoMaking" : Str))), V.bl (decide (c = ("NotStraight" : Str))), V.bl (decide (c = ("NoText" : Str))), V.bl (decide (c = ("NoManner" : Str))), V.bl (decide (c = ("NoNames" : Str)))] ++ [V.bl (decide (c = ("NoLine" : Str))), V.bl (decide (c = ("NoHouse" : Str))), V.bl (decide (c = ("NoProgram" : Str)))])) l9 = some (.lst [V.bl (decide (c = ("NoNumber" : Str))), V.bl (decide (c = ("NoName" : Str))), V.bl (decide (c = ("NoValue" : Str))), V.bl (decide (c = ("NoFrame" : Str))), V.bl (decide (c = ("Gone" : Str))), V.bl (decide (c = ("Ground" : Str))), V.bl (decide (c = ("TooMany" : Str))), V.bl (decide (c = ("Full" : Str))), V.bl (decide (c = ("NoWay" : Str))), V.bl (decide (c = ("NoCell" : Str))), V.bl (decide (c = ("NoHands" : Str))), V.bl (decide (c = ("Kept" : Str))), V.bl (decide (c = ("NoDeed" : Str))), V.bl (decide (c = ("TooDeep" : Str))), V.bl (decide (c = ("TooWide" : Str))), V.bl (decide (c = ("TooLong" : Str))), V.bl (decide (c = ("Twice" : Str))), V.bl (decide (c = ("NoLabel" : Str))), V.bl (decide (c = ("NoChoices" : Str))), V.bl (decide (c = ("NoMaking" : Str))), V.bl (decide (c = ("NotStraight" : Str))), V.bl (decide (c = ("NoText" : Str))), V.bl (decide (c = ("NoManner" : Str))), V.bl (decide (c = ("NoNames" : Str))), V.bl (decide (c = ("NoLine" : Str))), V.bl (decide (c = ("NoHouse" : Str))), V.bl (decide (c = ("NoProgram" : Str)))]) := upd_same
    have k9 := (k8.trans j8).trans i8
    have hn9 : H l9 = none := (k8.trans j8).free hl9
    have x9 := y8.kp fun b o e => i8 b o e (by simp)
    generalize upd G8 l9 (.lst ([V.bl (decide (c = ("NoNumber" : Str))), V.bl (decide (c = ("NoName" : Str))), V.bl (decide (c = ("NoValue" : Str))), V.bl (decide (c = ("NoFrame" : Str))), V.bl (decide (c = ("Gone" : Str))), V.bl (decide (c = ("Ground" : Str))), V.bl (decide (c = ("TooMany" : Str))), V.bl (decide (c = ("Full" : Str))), V.bl (decide (c = ("NoWay" : Str))), V.bl (decide (c = ("NoCell" : Str))), V.bl (decide (c = ("NoHands" : Str))), V.bl (decide (c = ("Kept" : Str))), V.bl (decide (c = ("NoDeed" : Str))), V.bl (decide (c = ("TooDeep" : Str))), V.bl (decide (c = ("TooWide" : Str))), V.bl (decide (c = ("TooLong" : Str))), V.bl (decide (c = ("Twice" : Str))), V.bl (decide (c = ("NoLabel" : Str))), V.bl (decide (c = ("NoChoices" : Str))), V.bl (decide (c = ("NoMaking" : Str))), V.bl (decide (c = ("NotStraight" : Str))), V.bl (decide (c = ("NoText" : Str))), V.bl (decide (c = ("NoManner" : Str))), V.bl (decide (c = ("NoNames" : Str)))] ++ [V.bl (decide (c = ("NoLine" : Str))), V.bl (decide (c = ("NoHouse" : Str))), V.bl (decide (c = ("NoProgram" : Str)))])) = H9 at *
    walk_at "nx"
    exact ⟨_, rfl, q l9 H9 hn9 k9 e9⟩
end

end Lw
namespace Lw
open PySem PySem.Spec L2 FG
open PyProof.Rows hiding St
/-! ### fields -/
def FLDS : List (Str × List Str) := [("NoNumber", ["found"]), ("NoName", ["found"]), ("NoValue", ["found"]), ("NoFrame", ["found"]), ("Gone", ["found", "by"]), ("TooMany", ["many"]), ("Full", ["need", "spare"]), ("NoWay", ["found"]), ("NoCell", ["found"]), ("NoHands", ["found"]), ("Kept", ["ways"]), ("NoDeed", ["found"]), ("TooDeep", ["depth"]), ("TooWide", ["many"]), ("TooLong", ["many"]), ("Twice", ["label"]), ("NoLabel", ["label"]), ("NoChoices", ["found"]), ("NoMaking", ["found"]), ("NotStraight", ["number"]), ("NoText", ["line"]), ("NoManner", ["found"]), ("NoNames", ["found"]), ("NoLine", ["found"])]
section
variable {P : Program} {w : World} {K : PySem.W.Frag} {mg : Str → Option Value} {base : Heap}
theorem xc_of (T : Tx K mg) : ∀ p ∈ FLDS, XC K (He.ga K p.1) p.2 := by
  intro p hp
  simp only [FLDS, List.mem_cons, List.not_mem_nil, or_false] at hp
  rcases hp with rfl | rfl | rfl | rfl | rfl | rfl | rfl | rfl | rfl | rfl | rfl | rfl | rfl | rfl | rfl | rfl | rfl | rfl | rfl | rfl | rfl | rfl | rfl | rfl
  · exact T.x_NoNumber.1
  · exact T.x_NoName.1
  · exact T.x_NoValue.1
  · exact T.x_NoFrame.1
  · exact T.x_Gone.1
  · exact T.x_TooMany.1
  · exact T.x_Full.1
  · exact T.x_NoWay.1
  · exact T.x_NoCell.1
  · exact T.x_NoHands.1
  · exact T.x_Kept.1
  · exact T.x_NoDeed.1
  · exact T.x_TooDeep.1
  · exact T.x_TooWide.1
  · exact T.x_TooLong.1
  · exact T.x_Twice.1
  · exact T.x_NoLabel.1
  · exact T.x_NoChoices.1
  · exact T.x_NoMaking.1
  · exact T.x_NotStraight.1
  · exact T.x_NoText.1
  · exact T.x_NoManner.1
  · exact T.x_NoNames.1
  · exact T.x_NoLine.1
def NAMES : List Str := ["found", "many", "ways", "depth", "label", "number", "line", "by", "need", "spare"]
def spField (K : PySem.W.Frag) : Sp := fun vs H Q _ => ∃ (a : Addr) (n c : Str) (fs : List Str) (kvs : List (Str × V)) (v : V), vs = [.ref a, .str n] ∧ (c, fs) ∈ FLDS ∧ n ∈ fs ∧ Xv H a (He.ga K c) kvs ∧ kvs.lookup n = some v ∧ Q v H
theorem ok_field (T : Tx K mg) {fd : FuncData} (F : Fun K "_law_field" "_law_field" s__law_field (He.ga K "_law_field") fd) : FnG P w K mg base 1 (He.ga K "_law_field") fd ["_law_e", "_law_name"] (spField K) := by
  refine FnG.of F sc__law_field (fun vs H Q E h => ?_) (fun cdv A outer sh H vs Q E hr h => ?_)
  · obtain ⟨a, n, c, fs, kvs, v, rfl, _⟩ := h; rfl
  · obtain ⟨a, n, c, fs, kvs, v, rfl, hc, hn, xv, hl, q⟩ := h
    have xc := xc_of T (c, fs) hc
    have nn : n ∈ NAMES := by
      have all : (FLDS.all fun p => p.2.all fun m => NAMES.contains m) = true := by decide +kernel
      have := List.all_eq_true.mp (List.all_eq_true.mp all (c, fs) hc) n hn
      simpa using this
    refine ⟨_, pss_cons (ps_if (pt_cmpR op_eq (pv 1) (pe_str) (by first | exact nomark _ | rfl)) (pss_one (ps_ret (pe_xv (pv 0)))) (pss_nil))
      (pss_cons (ps_if (pt_cmpR op_eq (pv 1) (pe_str) (by first | exact nomark _ | rfl)) (pss_one (ps_ret (pe_xv (pv 0)))) (pss_nil))
      (pss_cons (ps_if (pt_cmpR op_eq (pv 1) (pe_str) (by first | exact nomark _ | rfl)) (pss_one (ps_ret (pe_xv (pv 0)))) (pss_nil))
      (pss_cons (ps_if (pt_cmpR op_eq (pv 1) (pe_str) (by first | exact nomark _ | rfl)) (pss_one (ps_ret (pe_xv (pv 0)))) (pss_nil))
      (pss_cons (ps_if (pt_cmpR op_eq (pv 1) (pe_str) (by first | exact nomark _ | rfl)) (pss_one (ps_ret (pe_xv (pv 0)))) (pss_nil))
      (pss_cons (ps_if (pt_cmpR op_eq (pv 1) (pe_str) (by first | exact nomark _ | rfl)) (pss_one (ps_ret (pe_xv (pv 0)))) (pss_nil))
      (pss_cons (ps_if (pt_cmpR op_eq (pv 1) (pe_str) (by first | exact nomark _ | rfl)) (pss_one (ps_ret (pe_xv (pv 0)))) (pss_nil))
      (pss_cons (ps_if (pt_cmpR op_eq (pv 1) (pe_str) (by first | exact nomark _ | rfl)) (pss_one (ps_ret (pe_xv (pv 0)))) (pss_nil))
      (pss_cons (ps_if (pt_cmpR op_eq (pv 1) (pe_str) (by first | exact nomark _ | rfl)) (pss_one (ps_ret (pe_xv (pv 0)))) (pss_nil))
      (pss_one (ps_ret (pe_xv (pv 0)))))))))))), ?_⟩
    simp only [NAMES, List.mem_cons, List.not_mem_nil, or_false] at nn
    rcases nn with rfl | rfl | rfl | rfl | rfl | rfl | rfl | rfl | rfl | rfl
    · refine ⟨_, rfl, rfl, _, rfl, ?_⟩
      rw [show decide (V.str ("found" : Str) = V.str ("found" : Str)) = true from by decide +kernel]
      refine iteT ?_
      exact ⟨_, rfl, a, _, fs, kvs, v, rfl, xv, xc, hn, hl, q⟩
    · refine ⟨_, rfl, rfl, _, rfl, ?_⟩
      rw [show decide (V.str ("many" : Str) = V.str ("found" : Str)) = false from by decide +kernel]
      refine iteF ?_
      walk_at "nx"
      refine ⟨_, rfl, rfl, _, rfl, ?_⟩
      rw [show decide (V.str ("many" : Str) = V.str ("many" : Str)) = true from by decide +kernel]
      refine iteT ?_
      exact ⟨_, rfl, a, _, fs, kvs, v, rfl, xv, xc, hn, hl, q⟩
    · refine ⟨_, rfl, rfl, _, rfl, ?_⟩
      rw [show decide (V.str ("ways" : Str) = V.str ("found" : Str)) = false from by decide +kernel]
      refine iteF ?_
      walk_at "nx"
      refine ⟨_, rfl, rfl, _, rfl, ?_⟩
      rw [show decide (V.str ("ways" : Str) = V.str ("many" : Str)) = false from by decide +kernel]
      refine iteF ?_
      walk_at "nx"
      refine ⟨_, rfl, rfl, _, rfl, ?_⟩
      rw [show decide (V.str ("ways" : Str) = V.str ("ways" : Str)) = true from by decide +kernel]
      refine iteT ?_
      exact ⟨_, rfl, a, _, fs, kvs, v, rfl, xv, xc, hn, hl, q⟩
    · refine ⟨_, rfl, rfl, _, rfl, ?_⟩
      rw [show decide (V.str ("depth" : Str) = V.str ("found" : Str)) = false from by decide +kernel]
      refine iteF ?_
      walk_at "nx"
      refine ⟨_, rfl, rfl, _, rfl, ?_⟩
      rw [show decide (V.str ("depth" : Str) = V.str ("many" : Str)) = false from by decide +kernel]
      refine iteF ?_
      walk_at "nx"
      refine ⟨_, rfl, rfl, _, rfl, ?_⟩
      rw [show decide (V.str ("depth" : Str) = V.str ("ways" : Str)) = false from by decide +kernel]
      refine iteF ?_
      walk_at "nx"
      refine ⟨_, rfl, rfl, _, rfl, ?_⟩
      rw [show decide (V.str ("depth" : Str) = V.str ("depth" : Str)) = true from by decide +kernel]
      refine iteT ?_
      exact ⟨_, rfl, a, _, fs, kvs, v, rfl, xv, xc, hn, hl, q⟩
    · refine ⟨_, rfl, rfl, _, rfl, ?_⟩
      rw [show decide (V.str ("label" : Str) = V.str ("found" : Str)) = false from by decide +kernel]
      refine iteF ?_
      walk_at "nx"
      refine ⟨_, rfl, rfl, _, rfl, ?_⟩
      rw [show decide (V.str ("label" : Str) = V.str ("many" : Str)) = false from by decide +kernel]
      refine iteF ?_
      walk_at "nx"
      refine ⟨_, rfl, rfl, _, rfl, ?_⟩
      rw [show decide (V.str ("label" : Str) = V.str ("ways" : Str)) = false from by decide +kernel]
      refine iteF ?_
      walk_at "nx"
      refine ⟨_, rfl, rfl, _, rfl, ?_⟩
      rw [show decide (V.str ("label" : Str) = V.str ("depth" : Str)) = false from by decide +kernel]
      refine iteF ?_
      walk_at "nx"
      refine ⟨_, rfl, rfl, _, rfl, ?_⟩
      rw [show decide (V.str ("label" : Str) = V.str ("label" : Str)) = true from by decide +kernel]
      refine iteT ?_
      exact ⟨_, rfl, a, _, fs, kvs, v, rfl, xv, xc, hn, hl, q⟩
    · refine ⟨_, rfl, rfl, _, rfl, ?_⟩
      rw [show decide (V.str ("number" : Str) = V.str ("found" : Str)) = false from by decide +kernel]
      refine iteF ?_
      walk_at "nx"
      refine ⟨_, rfl, rfl, _, rfl, ?_⟩
      rw [show decide (V.str ("number" : Str) = V.str ("many" : Str)) = false from by decide +kernel]
      refine iteF ?_
      walk_at "nx"
      refine ⟨_, rfl, rfl, _, rfl, ?_⟩
      rw [show decide (V.str ("number" : Str) = V.str ("ways" : Str)) = false from by decide +kernel]
      refine iteF ?_
      walk_at "nx"
      refine ⟨_, rfl, rfl, _, rfl, ?_⟩
      rw [show decide (V.str ("number" : Str) = V.str ("depth" : Str)) = false from by decide +kernel]
      refine iteF ?_
      walk_at "nx"
      refine ⟨_, rfl, rfl, _, rfl, ?_⟩
      rw [show decide (V.str ("number" : Str) = V.str ("label" : Str)) = false from by decide +kernel]
      refine iteF ?_
      walk_at "nx"
      refine ⟨_, rfl, rfl, _, rfl, ?_⟩
      rw [show decide (V.str ("number" : Str) = V.str ("number" : Str)) = true from by decide +kernel]
      refine iteT ?_
      exact ⟨_, rfl, a, _, fs, kvs, v, rfl, xv, xc, hn, hl, q⟩
    · refine ⟨_, rfl, rfl, _, rfl, ?_⟩
      rw [show decide (V.str ("line" : Str) = V.str ("found" : Str)) = false from by decide +kernel]
      refine iteF ?_
      walk_at "nx"
      refine ⟨_, rfl, rfl, _, rfl, ?_⟩
      rw [show decide (V.str ("line" : Str) = V.str ("many" : Str)) = false from by decide +kernel]
      refine iteF ?_
      walk_at "nx"
      refine ⟨_, rfl, rfl, _, rfl, ?_⟩
      rw [show decide (V.str ("line" : Str) = V.str ("ways" : Str)) = false from by decide +kernel]
      refine iteF ?_
      walk_at "nx"
      refine ⟨_, rfl, rfl, _, rfl, ?_⟩
      rw [show decide (V.str ("line" : Str) = V.str ("depth" : Str)) = false from by decide +kernel]
      refine iteF ?_
      walk_at "nx"
      refine ⟨_, rfl, rfl, _, rfl, ?_⟩
      rw [show decide (V.str ("line" : Str) = V.str ("label" : Str)) = false from by decide +kernel]
      refine iteF ?_
      walk_at "nx"
      refine ⟨_, rfl, rfl, _, rfl, ?_⟩
      rw [show decide (V.str ("line" : Str) = V.str ("number" : Str)) = false from by decide +kernel]
      refine iteF ?_
      walk_at "nx"
      refine ⟨_, rfl, rfl, _, rfl, ?_⟩
      rw [show decide (V.str ("line" : Str) = V.str ("line" : Str)) = true from by decide +kernel]
      refine iteT ?_
      exact ⟨_, rfl, a, _, fs, kvs, v, rfl, xv, xc, hn, hl, q⟩
    · refine ⟨_, rfl, rfl, _, rfl, ?_⟩
      rw [show decide (V.str ("by" : Str) = V.str ("found" : Str)) = false from by decide +kernel]
      refine iteF ?_
      walk_at "nx"
      refine ⟨_, rfl, rfl, _, rfl, ?_⟩
      rw [show decide (V.str ("by" : Str) = V.str ("many" : Str)) = false from by decide +kernel]
      refine iteF ?_
      walk_at "nx"
      refine ⟨_, rfl, rfl, _, rfl, ?_⟩
      rw [show decide (V.str ("by" : Str) = V.str ("ways" : Str)) = false from by decide +kernel]
      refine iteF ?_
      walk_at "nx"
      refine ⟨_, rfl, rfl, _, rfl, ?_⟩
      rw [show decide (V.str ("by" : Str) = V.str ("depth" : Str)) = false from by decide +kernel]
      refine iteF ?_
      walk_at "nx"
      refine ⟨_, rfl, rfl, _, rfl, ?_⟩
      rw [show decide (V.str ("by" : Str) = V.str ("label" : Str)) = false from by decide +kernel]
      refine iteF ?_
      walk_at "nx"
      refine ⟨_, rfl, rfl, _, rfl, ?_⟩
      rw [show decide (V.str ("by" : Str) = V.str ("number" : Str)) = false from by decide +kernel]
      refine iteF ?_
      walk_at "nx"
      refine ⟨_, rfl, rfl, _, rfl, ?_⟩
      rw [show decide (V.str ("by" : Str) = V.str ("line" : Str)) = false from by decide +kernel]
      refine iteF ?_
      walk_at "nx"
      refine ⟨_, rfl, rfl, _, rfl, ?_⟩
      rw [show decide (V.str ("by" : Str) = V.str ("by" : Str)) = true from by decide +kernel]
      refine iteT ?_
      exact ⟨_, rfl, a, _, fs, kvs, v, rfl, xv, xc, hn, hl, q⟩
    · refine ⟨_, rfl, rfl, _, rfl, ?_⟩
      rw [show decide (V.str ("need" : Str) = V.str ("found" : Str)) = false from by decide +kernel]
      refine iteF ?_
      walk_at "nx"
      refine ⟨_, rfl, rfl, _, rfl, ?_⟩
      rw [show decide (V.str ("need" : Str) = V.str ("many" : Str)) = false from by decide +kernel]
      refine iteF ?_
      walk_at "nx"
      refine ⟨_, rfl, rfl, _, rfl, ?_⟩
      rw [show decide (V.str ("need" : Str) = V.str ("ways" : Str)) = false from by decide +kernel]
      refine iteF ?_
      walk_at "nx"
      refine ⟨_, rfl, rfl, _, rfl, ?_⟩
      rw [show decide (V.str ("need" : Str) = V.str ("depth" : Str)) = false from by decide +kernel]
      refine iteF ?_
      walk_at "nx"
      refine ⟨_, rfl, rfl, _, rfl, ?_⟩
      rw [show decide (V.str ("need" : Str) = V.str ("label" : Str)) = false from by decide +kernel]
      refine iteF ?_
      walk_at "nx"
      refine ⟨_, rfl, rfl, _, rfl, ?_⟩
      rw [show decide (V.str ("need" : Str) = V.str ("number" : Str)) = false from by decide +kernel]
      refine iteF ?_
      walk_at "nx"
      refine ⟨_, rfl, rfl, _, rfl, ?_⟩
      rw [show decide (V.str ("need" : Str) = V.str ("line" : Str)) = false from by decide +kernel]
      refine iteF ?_
      walk_at "nx"
      refine ⟨_, rfl, rfl, _, rfl, ?_⟩
      rw [show decide (V.str ("need" : Str) = V.str ("by" : Str)) = false from by decide +kernel]
      refine iteF ?_
      walk_at "nx"
      refine ⟨_, rfl, rfl, _, rfl, ?_⟩
      rw [show decide (V.str ("need" : Str) = V.str ("need" : Str)) = true from by decide +kernel]
      refine iteT ?_
      exact ⟨_, rfl, a, _, fs, kvs, v, rfl, xv, xc, hn, hl, q⟩
    · refine ⟨_, rfl, rfl, _, rfl, ?_⟩
      rw [show decide (V.str ("spare" : Str) = V.str ("found" : Str)) = false from by decide +kernel]
      refine iteF ?_
      walk_at "nx"
      refine ⟨_, rfl, rfl, _, rfl, ?_⟩
      rw [show decide (V.str ("spare" : Str) = V.str ("many" : Str)) = false from by decide +kernel]
      refine iteF ?_
      walk_at "nx"
      refine ⟨_, rfl, rfl, _, rfl, ?_⟩
      rw [show decide (V.str ("spare" : Str) = V.str ("ways" : Str)) = false from by decide +kernel]
      refine iteF ?_
      walk_at "nx"
      refine ⟨_, rfl, rfl, _, rfl, ?_⟩
      rw [show decide (V.str ("spare" : Str) = V.str ("depth" : Str)) = false from by decide +kernel]
      refine iteF ?_
      walk_at "nx"
      refine ⟨_, rfl, rfl, _, rfl, ?_⟩
      rw [show decide (V.str ("spare" : Str) = V.str ("label" : Str)) = false from by decide +kernel]
      refine iteF ?_
      walk_at "nx"
      refine ⟨_, rfl, rfl, _, rfl, ?_⟩
      rw [show decide (V.str ("spare" : Str) = V.str ("number" : Str)) = false from by decide +kernel]
      refine iteF ?_
      walk_at "nx"
      refine ⟨_, rfl, rfl, _, rfl, ?_⟩
      rw [show decide (V.str ("spare" : Str) = V.str ("line" : Str)) = false from by decide +kernel]
      refine iteF ?_
      walk_at "nx"
      refine ⟨_, rfl, rfl, _, rfl, ?_⟩
      rw [show decide (V.str ("spare" : Str) = V.str ("by" : Str)) = false from by decide +kernel]
      refine iteF ?_
      walk_at "nx"
      refine ⟨_, rfl, rfl, _, rfl, ?_⟩
      rw [show decide (V.str ("spare" : Str) = V.str ("need" : Str)) = false from by decide +kernel]
      refine iteF ?_
      walk_at "nx"
      exact ⟨_, rfl, a, _, fs, kvs, v, rfl, xv, xc, hn, hl, q⟩
end

end Lw
namespace Lw
open PySem PySem.Spec L2 FG
open PyProof.Rows hiding St
/-! ### which one it is -/
/-- the number of a kind; none of them -/
def NumK (c : Str) (z : Int) : Prop := (∃ j : Nat, KINDS[j]? = some c ∧ z = (j : Int)) ∨ (c = ("RoomError" : Str) ∧ z = -1)
theorem kinds_nd : KINDS.Nodup := by
  have h : (KINDS.zipIdx.all fun p => KINDS.zipIdx.all fun q => decide (p.1 = q.1 → p.2 = q.2)) = true := by decide +kernel
  rw [List.nodup_iff_pairwise_ne, List.pairwise_iff_getElem]
  intro i j hi hj hij e
  have h1 := List.all_eq_true.mp h (KINDS[i], i) (List.mem_zipIdx_iff_getElem?.mpr (by simp [hi]))
  have h2 := List.all_eq_true.mp h1 (KINDS[j], j) (List.mem_zipIdx_iff_getElem?.mpr (by simp [hj]))
  have := of_decide_eq_true h2 e
  omega
theorem NumK.in_ {c : Str} {z : Int} (h : NumK c z) : c ∈ ("RoomError" : Str) :: KINDS := by
  rcases h with ⟨j, e, _⟩ | ⟨e, _⟩
  · exact List.mem_cons_of_mem _ (List.mem_of_getElem? e)
  · rw [e]; exact List.mem_cons_self
theorem isK_bl (c : Str) : isK c = (KINDS.map fun d => decide (c = d)).map V.bl := by unfold isK; rw [List.map_map]; rfl
theorem count_k : ∀ c ∈ KINDS, (KINDS.map fun d => decide (c = d)).count true = 1 := by
  have h : (KINDS.all fun c => (KINDS.map fun d => decide (c = d)).count true == 1) = true := by decide +kernel
  intro c hc
  have := List.all_eq_true.mp h c hc
  simpa using this
theorem count_r : (KINDS.map fun d => decide (("RoomError" : Str) = d)).count true = 0 := by decide +kernel
def spNumber (K : PySem.W.Frag) : Sp := fun vs H Q _ => ∃ (a : Addr) (c : Str) (kvs : List (Str × V)) (z : Int), vs = [.ref a] ∧ NumK c z ∧ Xv H a (He.ga K c) kvs ∧ ∀ H', Kp [] H H' → Q (.int z) H'
def spApart (K : PySem.W.Frag) : Sp := fun vs H Q _ => ∃ (a : Addr) (c : Str) (kvs : List (Str × V)) (j : Nat), vs = [.ref a, .int (j : Int)] ∧ KINDS[j]? = some c ∧ Xv H a (He.ga K c) kvs ∧ ∀ H', Kp [] H H' → Q (.bl true) H'
theorem eqv_self {d : PyData} (h : SeqAt.shaped d = true) : PyData.eqv d d = true := by
  unfold SeqAt.shaped at h
  obtain ⟨h1, _⟩ := Bool.and_eq_true_iff.mp h
  exact SeqAt.eqv_refl d h1
theorem lay_bools (bs : List Bool) : PyData.canLayAll0 (bs.map PyData.bool) = true ∧ PyData.depthAll (bs.map PyData.bool) ≤ 1 := by
  induction bs with
  | nil => exact ⟨by simp only [List.map_nil, PyData.canLayAll0], by simp only [List.map_nil, PyData.depthAll]; omega⟩
  | cons b bs ih => exact ⟨by simp only [List.map_cons, PyData.canLayAll0, PyData.canLay0, ih.1, Bool.and_self], by simp only [List.map_cons, PyData.depthAll, PyData.depth]; have := ih.2; omega⟩
theorem eqv_bools (bs : List Bool) : PyData.eqv (.list (bs.map PyData.bool)) (.list (bs.map PyData.bool)) = true ∧ SeqAt.shaped (.list (bs.map PyData.bool)) = true := by
  have sh : SeqAt.shaped (.list (bs.map PyData.bool)) = true := by
    obtain ⟨h1, h2⟩ := lay_bools bs
    unfold SeqAt.shaped
    refine Bool.and_eq_true_iff.mpr ⟨by simp only [PyData.canLay0, h1], ?_⟩
    rw [decide_eq_true_eq]
    simp only [PyData.depth]; omega
  exact ⟨eqv_self sh, sh⟩
theorem dp_bools {K : PySem.W.Frag} {H : Hp} : ∀ bs : List Bool, DpAll K H (bs.map V.bl) (bs.map PyData.bool)
  | [] => .nil
  | b :: bs => .cons (.bl b) (dp_bools bs)
section
variable {P : Program} {w : World} {K : PySem.W.Frag} {mg : Str → Option Value} {base : Heap}
theorem ok_number (T : Tx K mg) {fd : FuncData} (F : Fun K "_law_number" "_law_number" s__law_number (He.ga K "_law_number") fd) (c__law_kinds : Cal P w K mg base 1 "_law_kinds" (spKinds K)) : FnG P w K mg base 2 (He.ga K "_law_number") fd ["_law_e"] (spNumber K) := by
  refine FnG.of F sc__law_number (fun vs H Q E h => ?_) (fun cdv A outer sh H vs Q E hr h => ?_)
  · obtain ⟨a, c, kvs, z, rfl, _⟩ := h; rfl
  · obtain ⟨a, c, kvs, z, rfl, hz, xv, q⟩ := h
    refine ⟨_, pss_cons (ps_set (i := 1) sc__law_number.nd rfl (by first | exact Or.inl rfl | exact Or.inr rfl) (gc c__law_kinds (hr.mono (by decide)) takes0 (pa_cons (pv 0) (pa_nil))))
      (pss_cons (ps_if (pt_cmpR op_ne (kbm K PySem.F.plainAttrs_list PySem.F.slot_list_count PySem.F.type_list_count (kcntB K hr.r.units) (pv 1) (pa_cons (pe_bl) (pa_nil))) (pe_int) (by first | exact nomark _ | rfl)) (pss_one (ps_ret (pe_un un_neg (pe_int)))) (pss_nil))
      (pss_one (ps_ret (kbm K PySem.F.plainAttrs_list PySem.F.slot_list_index PySem.F.type_list_index mt_index (pv 1) (pa_cons (pe_bl) (pa_nil)))))), ?_⟩
    refine ⟨_, rfl, a, c, kvs, rfl, hz.in_, xv, fun l H1 hl1 k1 el => ?_⟩
    rw [isK_bl] at el
    refine ⟨_, rfl, .inl ⟨rfl, _, SqL.of el⟩, l, _, true, rfl, rfl, SqL.of el, rfl, _, rfl, ?_⟩
    rcases hz with ⟨j, ej, rfl⟩ | ⟨rfl, rfl⟩
    · rw [count_k c (List.mem_of_getElem? ej)]
      refine iteF ?_
      walk_at "nx"
      have hj : (KINDS.map fun d => decide (c = d))[j]? = some true := by rw [List.getElem?_map, ej]; simp
      refine ⟨_, rfl, .inl ⟨rfl, _, SqL.of el⟩, l, _, .bl true, j, .bl true, rfl, rfl, SqL.of el, rfl, ?_, ?_, rfl, fun m z' hm hz' => ?_, q H1 k1⟩
      · exact List.all_eq_true.mpr fun v hv => by obtain ⟨b, _, rfl⟩ := List.mem_map.mp hv; rfl
      · rw [List.getElem?_map, hj]; rfl
      · rw [List.getElem?_map, List.getElem?_map] at hz'
        cases em : KINDS[m]? with
        | none => rw [em] at hz'; cases hz'
        | some d =>
          rw [em] at hz'
          have nd : c ≠ d := fun z => by
            subst z
            have := (List.getElem?_inj (List.getElem?_eq_some_iff.mp em).1 kinds_nd).mp (em.trans ej.symm)
            omega
          have : z' = .bl false := by
            have := Option.some.inj hz'
            rw [← this]
            show V.bl (decide (c = d)) = _
            rw [decide_eq_false nd]
          rw [this]; rfl
    · rw [count_r]
      exact iteT ⟨_, rfl, q H1 k1⟩
theorem ok_apart (T : Tx K mg) {fd : FuncData} (F : Fun K "_law_apart" "_law_apart" s__law_apart (He.ga K "_law_apart") fd) (c__law_kinds : Cal P w K mg base 1 "_law_kinds" (spKinds K)) : FnG P w K mg base 2 (He.ga K "_law_apart") fd ["_law_e", "_law_at"] (spApart K) := by
  refine FnG.of F sc__law_apart (fun vs H Q E h => ?_) (fun cdv A outer sh H vs Q E hr h => ?_)
  · obtain ⟨a, c, kvs, j, rfl, _⟩ := h; rfl
  · obtain ⟨a, c, kvs, j, rfl, ej, xv, q⟩ := h
    have hc := List.mem_of_getElem? ej
    have hc2 : c ∈ ("RoomError" : Str) :: KINDS := List.mem_cons_of_mem _ hc
    have ex := exc_of T c hc2
    refine ⟨_, pss_cons (ps_if (PW.pt (pw_or (pt_not (pt_val (pe_callB (call_isV K) (by rfl) T.z_isinstance (by decide +kernel) (pa_cons (pv 0) (pa_cons (pe_glob (v := .ref (He.ga K "RoomError")) rfl T.g_RoomError rfl) (pa_nil)))))) (pw_or1 (pt_not (pt_val (pe_callB (call_isV K) (by rfl) T.z_isinstance (by decide +kernel) (pa_cons (pv 0) (pa_cons (pe_bltn (v := .ty "ValueError") (by rfl) T.z_ValueError (by decide +kernel) rfl) (pa_nil))))))))) (pss_one (ps_ret (pe_bl))) (pss_nil))
      (pss_one (ps_ret (pe_cmpR (keqD K hr.r.units) (gc c__law_kinds (hr.mono (by decide)) takes0 (pa_cons (pv 0) (pa_nil))) (pe_lc (own := [("_law_k", 2)]) (g := gName 2) (tt := tYes) rfl sc__law_apart.nd (pi_range1 rfl T.z_range (pa_cons (pe_int) (pa_nil))) (blkOk_by (own := [("_law_k", 2)]) (N := ["_law_e", "_law_at", "_law_k"]) (sc := defScope s__law_apart) (by decide +kernel)) (fun _ _ _ _ _ => pg_name (i := 2) sc__law_apart.nd rfl (by first | exact Or.inl rfl | exact Or.inr rfl)) (fun _ _ _ _ _ => by exact pts_nil) (fun _ _ _ _ _ => by exact pe_cmpR op_eq (pv 2) (pv 1) (by first | exact nomark _ | rfl))) (by first | exact nomark _ | rfl)))), ?_⟩
    refine ⟨_, rfl, a, _, kvs, _, _, true, rfl, xv, ex, (fun _ h => h), T.isAll.cr c hc, _, rfl, iteF ?_⟩
    refine ⟨_, rfl, a, _, kvs, _, _, true, rfl, xv, ex, (fun _ h => h), T.isAll.cv c hc, _, rfl, iteF ?_⟩
    walk_at "nx"
    refine ⟨_, rfl, a, c, kvs, rfl, hc2, xv, fun l H1 hl1 k1 el => ?_⟩
    rw [isK_bl] at el
    refine ⟨_, rfl, by decide, by decide, fun D hD => ?_⟩
    refine lc_range (lo := 0) (n := 27) (fun i H' => Kp [] H1 H' ∧ H' D = some (.lst (((KINDS.take i).map fun d => decide (c = d)).map V.bl))) ⟨Kp.refl.new hD, upd_same⟩ ?_ ?_
    · rintro i H2 hi ⟨k2, e2⟩
      have hi' : i < KINDS.length := hi
      have ev : V.bl (decide (V.int (0 + (i : Int)) = V.int (j : Int))) = V.bl (decide (c = KINDS[i])) := by
        have h1 : KINDS[i]? = some KINDS[i] := List.getElem?_eq_getElem hi'
        by_cases hij : i = j
        · subst hij
          have : c = KINDS[i] := Option.some.inj (ej.symm.trans h1)
          rw [decide_eq_true (by rw [Int.zero_add] : V.int (0 + (i : Int)) = V.int (i : Int)), decide_eq_true this]
        · rw [decide_eq_false (fun z => hij (by injection z with z; omega)), decide_eq_false fun z => ?_]
          exact hij ((List.getElem?_inj hi' kinds_nd).mp (h1.trans (by rw [ej, z])))
      refine ⟨rfl, _, rfl, _, rfl, rfl, _, e2, (by rw [List.length_map, List.length_map]; exact Nat.lt_of_le_of_lt (List.length_take_le _ _) (Nat.lt_of_lt_of_le hi (by decide))), fun b o eb _ => (upd_ne (ne_of_none eb hD)).trans (k2 b o eb (by simp)), ?_⟩
      rw [upd_same, List.take_succ_eq_append_getElem hi', List.map_append, List.map_append, ev]
      rfl
    · rintro H2 ⟨k2, e2⟩
      have et : KINDS.take 27 = KINDS := rfl
      rw [et] at e2
      obtain ⟨q1, q2⟩ := eqv_bools (KINDS.map fun d => decide (c = d))
      refine ⟨_, _, .lst (SqL.of (k2 _ _ el (by simp))) (dp_bools _), .lst (SqL.of e2) (dp_bools _), q2, q2, ?_⟩
      rw [q1]
      exact q H2 (k1.trans k2)
end

end Lw
namespace Lw
open PySem PySem.Spec L2 FG
open PyProof.Rows hiding St
/-! ### texts of letters; one sign, n times -/
abbrev sl (z : Str) : List Nat := z.cps.toList
theorem op_mulS {X : Cx} : OpR X (binaryOp .Mult) (fun x y H Q => ∃ (z : Str) (c : Nat) (n : Int), x = .str z ∧ y = .int n ∧ sl z = [c] ∧ 0 ≤ n ∧ n ≤ 100000 ∧ Q (.str ⟨(List.replicate n.toNat c).toArray⟩) H) := by
  intro pins s σ H x y v u Q I rx ry h
  obtain ⟨z, c, n, rfl, rfl, hz, h0, h1, q⟩ := h
  obtain ⟨t, rfl⟩ := rx
  obtain ⟨t', rfl⟩ := ry
  obtain rfl : z = ⟨#[c]⟩ := TL.ext_tl hz
  have e : Txt.mul ⟨#[c]⟩ n = ⟨(List.replicate n.toNat c).toArray⟩ := TL.ext_tl (PyProof.Rows.mul_one_list c n)
  refine PySem.SB.mul ⟨?_, ?_, ?_⟩ fun t'' k => ?_
  · rw [Bool.or_eq_false_iff]
    exact ⟨decide_eq_false (by omega), decide_eq_false (by omega)⟩
  · intro h2 _ h3
    have h4 : (1 : Int) ≤ (2 ^ 63 - 1) / n := by
      rw [Int.le_ediv_iff_mul_le (by omega)]
      omega
    have h5 : (((⟨#[c]⟩ : Str).length : Nat) : Int) = 1 := rfl
    rw [h5] at h3
    omega
  · intro _ _
    show PySem.Builtin.Str.tooLong (1 * n.toNat) = false
    exact decide_eq_false (by show ¬ (1 * n.toNat > sizeLine); have : (100000 : Nat) ≤ sizeLine := by decide
                              omega)
  · rw [e]
    exact ⟨.str _, H, I.tok _, ⟨_, rfl⟩, q⟩
def letS (z : Str) : Prop := ∀ c ∈ sl z, letter c = true
theorem len_sl (z : Str) : z.length = (sl z).length := TL.len_tl z
theorem let_app {x y : Str} (h : letS x) (k : letS y) : letS (x ++ y) := fun c hc => by
  have e : sl (x ++ y) = sl x ++ sl y := TL.tl_append x y
  rw [e] at hc
  rcases List.mem_append.mp hc with z | z
  · exact h c z
  · exact k c z
theorem app_len (x y : Str) : (x ++ y).length = x.length + y.length := by
  have e : sl (x ++ y) = sl x ++ sl y := TL.tl_append x y
  rw [len_sl, len_sl, len_sl, e, List.length_append]
theorem let_sign {x : Str} {c : Nat} (h : letS x) (hc : c ∈ sl x) : letS ⟨#[c]⟩ := fun d hd => by
  have e : d = c := by simpa using hd
  rw [e]; exact h c hc
theorem let_cut {x : Str} (h : letS x) (a b : Option Int) : letS (cutS x a b) := fun c hc => h c (List.mem_of_mem_drop (List.mem_of_mem_take hc))
theorem let_rep {x : Str} {c : Nat} (h : letS x) (hc : c ∈ sl x) (n : Nat) : letS ⟨(List.replicate n c).toArray⟩ := fun d hd => by
  have e : d ∈ List.replicate n c := by simpa using hd
  rw [(List.mem_replicate.mp e).2]; exact h c hc
theorem let_join {s : Str} {ys : List Str} (hs : letS s) (h : ∀ y ∈ ys, letS y) : letS (Txt.join s ys) := by
  have key : ∀ {S : List Nat}, (∀ c ∈ S, letter c = true) → ∀ ps : List (List Nat), (∀ p ∈ ps, ∀ c ∈ p, letter c = true) → ∀ c ∈ TL.joinL S ps, letter c = true := by
    intro S hS ps
    induction ps with
    | nil => intro _ c hc; cases hc
    | cons p r ih =>
      cases r with
      | nil => intro h c hc; exact h p (by simp) c hc
      | cons q r =>
        intro h c hc
        have hc2 : c ∈ p ++ (S ++ TL.joinL S (q :: r)) := hc
        rcases List.mem_append.mp hc2 with z | z
        · exact h p (by simp) c z
        · rcases List.mem_append.mp z with z | z
          · exact hS c z
          · exact ih (fun x hx => h x (List.mem_cons_of_mem _ hx)) c z
  have e : sl (Txt.join s ys) = TL.joinL (sl s) (ys.map sl) := by
    show TL.tl (Txt.join s ys) = _
    rw [TL.join_eq, TL.tl_join]
  intro c hc
  rw [e] at hc
  refine key hs _ (fun p hp c hc => ?_) c hc
  obtain ⟨y, hy, rfl⟩ := List.mem_map.mp hp
  exact h y hy c hc
theorem join_sl (ys : List Str) : (Txt.join "" ys).length = (ys.map (·.length)).sum := by
  have e : sl (Txt.join "" ys) = TL.joinL (sl "") (ys.map sl) := by
    show TL.tl (Txt.join "" ys) = _
    rw [TL.join_eq, TL.tl_join]
  have e0 : sl ("" : Str) = [] := rfl
  rw [len_sl, e, e0]
  clear e
  induction ys with
  | nil => rfl
  | cons y r ih =>
    cases r with
    | nil => show (sl y).length = _; rw [List.map_cons, List.sum_cons, ← len_sl]; simp
    | cons q r =>
      show (sl y ++ ([] ++ TL.joinL [] ((q :: r).map sl))).length = _
      rw [List.length_append, List.nil_append, ih, List.map_cons (a := y), List.sum_cons, ← len_sl]
theorem cut_to (z : Str) (n : Nat) : sl (cutS z none (some (n : Int))) = (sl z).take n := by
  show (((sl z).drop 0).take (HT.sIx z.length z.length (some (n : Int)) - 0)) = _
  rw [HT.sIx_nat, List.drop_zero, Nat.sub_zero, len_sl]
  rcases Nat.le_total n (sl z).length with h | h
  · rw [Nat.min_eq_left h]
  · rw [Nat.min_eq_right h, List.take_of_length_le h, List.take_of_length_le (Nat.le_refl _)]
theorem cut_from (z : Str) (n : Nat) : sl (cutS z (some (n : Int)) none) = (sl z).drop n := by
  show (((sl z).drop (HT.sIx z.length 0 (some (n : Int)))).take (z.length - HT.sIx z.length 0 (some (n : Int)))) = _
  rw [HT.sIx_nat, len_sl]
  rcases Nat.le_total n (sl z).length with h | h
  · rw [Nat.min_eq_left h]; exact List.take_of_length_le (by rw [List.length_drop]; exact Nat.le_refl _)
  · rw [Nat.min_eq_right h, List.drop_of_length_le h, List.drop_of_length_le (Nat.le_refl _)]; simp
theorem name_of {z : Str} (h : letS z) (h1 : 1 ≤ z.length) (h6 : z.length ≤ 6) : nameS z = true := by
  unfold nameS
  rw [Bool.and_eq_true]
  exact ⟨decide_eq_true ⟨h1, h6⟩, List.all_eq_true.mpr h⟩
theorem name_let {z : Str} (h : nameS z = true) : letS z ∧ 1 ≤ z.length ∧ z.length ≤ 6 := by
  unfold nameS at h
  rw [Bool.and_eq_true] at h
  have := of_decide_eq_true h.1
  exact ⟨List.all_eq_true.mp h.2, this.1, this.2⟩
def abc : Str := "abcdefghijklmnopqrstuvwxyz"
theorem abc_let : letS abc := fun c hc => by
  have := mem_letters c
  rw [← this]; exact decide_eq_true hc
theorem abc_len : abc.length = 26 := by decide +kernel
theorem str_at {z : Str} {i : Int} (h0 : 0 ≤ i) (h1 : i < z.length) : ∃ c, c ∈ sl z ∧ atI z.cps.toList i = some c := by
  obtain ⟨j, rfl⟩ : ∃ j : Nat, i = j := ⟨i.toNat, by omega⟩
  have hj : j < (sl z).length := by rw [← len_sl]; omega
  exact ⟨(sl z)[j], List.getElem_mem hj, atI_nat (List.getElem?_eq_getElem hj)⟩
theorem Kp.fr1 {H H1 : Hp} {b a : Addr} {n : Int} (k : Kp [b] H H1) (bx : BoxAt H1 b n) (e : H1 a = none) : H a = none := by
  cases h : H a with
  | none => rfl
  | some o =>
    have nb : a ≠ b := bx.ne e
    have := k a o h (by simpa using nb)
    rw [e] at this; cases this

end Lw
namespace Lw
open PySem PySem.Spec L2 FG
open PyProof.Rows hiding St
/-! ### data of refusals -/
def okX (d : PyData) (B D : Nat) : Prop := d.leavesShort 40 = true ∧ d.showable = true ∧ d.bulk ≤ B ∧ d.depth ≤ D
theorem okX.more {d : PyData} {B D B' D' : Nat} (h : okX d B D) (h1 : B ≤ B') (h2 : D ≤ D') : okX d B' D' := ⟨h.1, h.2.1, Nat.le_trans h.2.2.1 h1, Nat.le_trans h.2.2.2 h2⟩
theorem okX_non : okX .none 0 0 := ⟨rfl, rfl, by simp only [PyData.bulk]; omega, by simp only [PyData.depth]; omega⟩
theorem okX_bl (b : Bool) : okX (.bool b) 0 0 := ⟨rfl, rfl, by simp only [PyData.bulk]; omega, by simp only [PyData.depth]; omega⟩
theorem okX_int {i : Int} (h : i.natAbs < 10 ^ 38) : okX (.int i) 0 0 :=
  ⟨by simp only [PyData.leavesShort, decide_eq_true_eq]; exact int_short h, by simp only [PyData.showable, decide_eq_true_eq]; exact log_small h, by simp only [PyData.bulk]; omega, by simp only [PyData.depth]; omega⟩
theorem okX_str {x : Str} (h : ∀ c ∈ sl x, c < 16 ^ 8) : okX (.str x) x.length 0 :=
  ⟨by simp only [PyData.leavesShort]; exact List.all_eq_true.mpr fun c hc => decide_eq_true (h c hc), by simp only [PyData.showable], by simp only [PyData.bulk]; exact Nat.le_refl _, by simp only [PyData.depth]; omega⟩
theorem okX_all {ds : List PyData} {B D : Nat} (h : ∀ d ∈ ds, okX d B D) : PyData.leavesShortAll 40 ds = true ∧ PyData.showableAll ds = true ∧ PyData.bulkAll ds ≤ ds.length * (B + 1) ∧ PyData.depthAll ds ≤ D := by
  induction ds with
  | nil => exact ⟨by simp only [PyData.leavesShortAll], by simp only [PyData.showableAll], by simp only [PyData.bulkAll]; omega, by simp only [PyData.depthAll]; omega⟩
  | cons d ds ih =>
    obtain ⟨a1, a2, a3, a4⟩ := ih fun x hx => h x (by simp [hx])
    obtain ⟨b1, b2, b3, b4⟩ := h d (by simp)
    refine ⟨by simp only [PyData.leavesShortAll, a1, b1, Bool.and_self], by simp only [PyData.showableAll, a2, b2, Bool.and_self], ?_, ?_⟩
    · simp only [PyData.bulkAll, List.length_cons, Nat.add_mul, Nat.one_mul]; omega
    · simp only [PyData.depthAll]; omega
theorem okX_lst {ds : List PyData} {B D : Nat} (h : ∀ d ∈ ds, okX d B D) : okX (.list ds) (ds.length * (B + 1)) (D + 1) := by
  obtain ⟨a1, a2, a3, a4⟩ := okX_all h
  exact ⟨by simp only [PyData.leavesShort, a1], by simp only [PyData.showable, a2], by simp only [PyData.bulk]; exact a3, by simp only [PyData.depth]; omega⟩
theorem okX_tup {ds : List PyData} {B D : Nat} (h : ∀ d ∈ ds, okX d B D) : okX (.tuple ds) (ds.length * (B + 1)) (D + 1) := by
  obtain ⟨a1, a2, a3, a4⟩ := okX_all h
  exact ⟨by simp only [PyData.leavesShort, a1], by simp only [PyData.showable, a2], by simp only [PyData.bulk]; exact a3, by simp only [PyData.depth]; omega⟩
theorem okX_dct {x : Str} {d : PyData} {B D : Nat} (h1 : okX (.str x) B D) (h2 : okX d B D) : okX (.dict [(.str x, d)]) (B + B + 2) (D + 1) := by
  obtain ⟨a1, a2, a3, a4⟩ := h1
  obtain ⟨b1, b2, b3, b4⟩ := h2
  refine ⟨by
      have a1' := a1
      simp only [PyData.leavesShort] at a1'
      simp only [PyData.leavesShort, PyData.leavesShortKv, a1', b1, Bool.and_self], by simp only [PyData.showable, PyData.showableKv] at a2 b2 ⊢; simp only [b2, Bool.and_self], ?_, ?_⟩
  · simp only [PyData.bulk, PyData.bulkKv] at a3 b3 ⊢; omega
  · simp only [PyData.depth, PyData.depthKv] at a4 b4 ⊢; omega
theorem okX.fits {d : PyData} {B D : Nat} (h : okX d B D) (hB : B ≤ 3000) (hD : D ≤ 50) : d.showable = true ∧ d.shown.length ≤ sizeLine ∧ d.depth ≤ 60 := by
  refine ⟨h.2.1, ?_, by have := h.2.2.2; omega⟩
  have h1 := PyData.shown_le_bulk 40 (by decide) d h.1
  have h2 := h.2.2.1
  rw [sizeLine_eq]; omega
/-- these are not looked at -/
def hide (H : Hp) (S : List Addr) : Hp := fun a => if a ∈ S then none else H a
theorem hide_at {H : Hp} {S : List Addr} {a : Addr} {o : HO} : hide H S a = some o ↔ a ∉ S ∧ H a = some o := by
  unfold hide
  by_cases h : a ∈ S
  · rw [if_pos h]; exact ⟨(fun z => by cases z), (fun z => absurd h z.1)⟩
  · rw [if_neg h]; exact ⟨fun z => ⟨h, z⟩, fun z => z.2⟩
mutual
theorem DpD.mono {H H' : Hp} (k : ∀ a o, H a = some o → H' a = some o) : ∀ (d : PyData) (v : V), DpD H v d → DpD H' v d
  | .none, _, h => by cases h; exact .non
  | .bool _, _, h => by cases h; exact .bl _
  | .int _, _, h => by cases h; exact .int _
  | .str _, _, h => by cases h; exact .str _
  | .list ds, _, h => by
    cases h with
    | lst e a => exact .lst (k _ _ e) (DpD.monos k ds _ a)
  | .tuple ds, _, h => by
    cases h with
    | tup e a => exact .tup (k _ _ e) (DpD.monos k ds _ a)
  | .dict [(.str x, d)], _, h => by
    cases h with
    | dct e a => exact .dct (k _ _ e) (DpD.mono k d _ a)
theorem DpD.monos {H H' : Hp} (k : ∀ a o, H a = some o → H' a = some o) : ∀ (ds : List PyData) (vs : List V), DpDs H vs ds → DpDs H' vs ds
  | [], _, h => by cases h; exact .nil
  | d :: ds, _, h => by
    cases h with
    | cons a b => exact .cons (DpD.mono k d _ a) (DpD.monos k ds _ b)
end
theorem hide_le {H : Hp} {S : List Addr} : ∀ a o, hide H S a = some o → H a = some o := fun a o e => (hide_at.mp e).2
theorem dpDs_at {H : Hp} {xs : List V} {ds : List PyData} (h : DpDs H xs ds) : ∀ {i : Nat} {v : V}, xs[i]? = some v → ∃ d ∈ ds, DpD H v d := by
  intro i v hv
  induction ds generalizing xs i with
  | nil => cases h; cases hv
  | cons d ds ih =>
    cases h with
    | cons a b =>
      cases i with
      | zero =>
        obtain rfl := Option.some.inj hv
        exact ⟨d, by simp, a⟩
      | succ i =>
        obtain ⟨e, he, h2⟩ := ih b (i := i) hv
        exact ⟨e, by simp [he], h2⟩
theorem dpDs_snoc {H : Hp} {xs : List V} {ds : List PyData} {v : V} {d : PyData} (h : DpDs H xs ds) (hv : DpD H v d) : DpDs H (xs ++ [v]) (ds ++ [d]) := by
  induction ds generalizing xs with
  | nil => cases h; exact .cons hv .nil
  | cons e ds ih =>
    cases h with
    | cons a b => exact .cons a (ih b)
theorem sz_in {n : Nat} (h : n ≤ 200000) : n ≤ sizeLine := by rw [sizeLine_eq]; omega
theorem sz_lt {n : Nat} (h : n < 200000) : n < sizeLine := by rw [sizeLine_eq]; omega
/-- any signs, below a bound -/
def sgS (z : Str) : Prop := ∀ c ∈ sl z, c < 16 ^ 8
theorem sg_join {ys : List Str} (h : ∀ y ∈ ys, sgS y) : sgS (Txt.join "" ys) := by
  have key : ∀ ps : List (List Nat), (∀ p ∈ ps, ∀ c ∈ p, c < 16 ^ 8) → ∀ c ∈ TL.joinL [] ps, c < 16 ^ 8 := by
    intro ps
    induction ps with
    | nil => intro _ c hc; cases hc
    | cons p r ih =>
      cases r with
      | nil => intro h c hc; exact h p (by simp) c hc
      | cons q r =>
        intro h c hc
        rcases List.mem_append.mp (show c ∈ p ++ ([] ++ TL.joinL [] (q :: r)) from hc) with z | z
        · exact h p (by simp) c z
        · exact ih (fun x hx => h x (List.mem_cons_of_mem _ hx)) c (by simpa using z)
  intro c hc
  have e : sl (Txt.join "" ys) = TL.joinL [] (ys.map sl) := by
    show TL.tl (Txt.join "" ys) = _
    rw [TL.join_eq, TL.tl_join]; rfl
  rw [e] at hc
  refine key _ (fun p hp c hc => ?_) c hc
  obtain ⟨y, hy, rfl⟩ := List.mem_map.mp hp
  exact h y hy c hc
def signs27 : Str := "aZ09 .,:;-+*/()[]{}<>_!?'\"\n"
theorem signs_sg : sgS signs27 := by
  have h : ((sl signs27).all fun c => decide (c < 16 ^ 8)) = true := by decide +kernel
  exact fun c hc => of_decide_eq_true (List.all_eq_true.mp h c hc)
theorem signs_len : signs27.length = 27 := by decide +kernel
theorem sg_sign {z : Str} (h : sgS z) {c : Nat} (hc : c ∈ sl z) : sgS ⟨#[c]⟩ := fun x hx => by
  have : x = c := by simpa [sl] using hx
  rw [this]; exact h c hc
def spText : Sp := fun vs H Q _ => ∃ (b : Addr) (n : Int), vs = [.ref b] ∧ BoxAt H b n ∧ n < 1000000 ∧ ∀ H' z, Kp [b] H H' → BoxAt H' b (n + 20) → sgS z → z.length ≤ 12 → Q (.str z) H'
section
variable {P : Program} {w : World} {K : PySem.W.Frag} {mg : Str → Option Value} {base : Heap}
theorem ok_text (T : Tx K mg) {fd : FuncData} (F : Fun K "_law_text" "_law_text" s__law_text (He.ga K "_law_text") fd) (c__law_take : Cal P w K mg base 1 "_law_take" spTake) : FnG P w K mg base 2 (He.ga K "_law_text") fd ["_law_box_here"] spText := by
  refine FnG.of F sc__law_text (fun vs H Q E h => ?_) (fun cdv A outer sh H vs Q E hr h => ?_)
  · obtain ⟨b, n, rfl, _⟩ := h; rfl
  · obtain ⟨b, n, rfl, hb, hn, q⟩ := h
    refine ⟨_, pss_cons (ps_set (i := 1) sc__law_text.nd rfl (by first | exact Or.inl rfl | exact Or.inr rfl) (pe_str))
      (pss_one (ps_ret (pe_join (pe_str) (pe_lc (own := [("_law_k", 2)]) (g := gName 2) (tt := tYes) rfl sc__law_text.nd (pi_range1 rfl T.z_range (pa_cons (gc c__law_take (hr.mono (by decide)) takes0 (pa_cons (pv 0) (pa_cons (pe_int) (pa_nil)))) (pa_nil))) (blkOk_by (own := [("_law_k", 2)]) (N := ["_law_box_here", "_law_signs", "_law_k"]) (sc := defScope s__law_text) (by decide +kernel)) (fun _ _ _ _ _ => pg_name (i := 2) sc__law_text.nd rfl (by first | exact Or.inl rfl | exact Or.inr rfl)) (fun _ _ _ _ _ => by exact pts_nil) (fun _ _ _ _ _ => by exact pe_ix ix_str (pv 1) (gc c__law_take (hr.mono (by decide)) takes0 (pa_cons (pv 0) (pa_cons (pe_callB call_len_str (by rfl) T.z_len PySem.boot_len (pa_cons (pv 1) (pa_nil))) (pa_nil)))) (fun _ _ => rfl)))))), ?_⟩
    walk_at "nx"
    refine ⟨⟨_, rfl⟩, _, rfl, b, n, 12, rfl, hb, by omega, by decide, by decide, fun H1 m k1 b1 m0 m1 => ⟨_, rfl, (by omega), (by omega), fun D hD => ?_⟩⟩
    refine lc_range (lo := 0) (n := _) (fun i H' => Kp [b] H1 H' ∧ BoxAt H' b (n + 1 + i) ∧ ∃ zs : List Str, H' D = some (.lst (zs.map V.str)) ∧ (∀ z ∈ zs, sgS z ∧ z.length = 1) ∧ zs.length = i) ⟨Kp.refl.new hD, (b1.new hD).more (by omega), [], upd_same, (fun _ z => by cases z), rfl⟩ ?_ ?_
    · rintro i H2 hi ⟨k2, bi, zs, ez, hz, lz⟩
      refine ⟨rfl, _, rfl, _, rfl, _, rfl, signs27, rfl, sz_in (by rw [signs_len]; decide), b, _, _, rfl, bi, by omega, by rw [signs_len]; decide, by rw [signs_len]; decide, fun H3 d k3 b3 d0 d1 => ?_⟩
      obtain ⟨c, hc, ec⟩ := str_at (z := signs27) d0 d1
      have nD : D ≠ b := b1.ne hD
      refine ⟨signs27, _, c, rfl, rfl, sz_in (by rw [signs_len]; decide), ec, _, (k3 D nD).trans ez, (by rw [List.length_map, lz]; exact sz_lt (by omega)), fun x o e hx => (upd_ne (ne_of_none e hD)).trans ((k2.trans k3.kp) x o e hx), ?_, zs ++ [⟨#[c]⟩], by rw [upd_same, List.map_append]; rfl, fun z hz2 => ?_, by rw [List.length_append, lz]; rfl⟩
      · exact (b3.kp (S := [D]) (fun x o e n => (upd_ne (by simpa using n)).trans e) (by simpa using nD.symm)).more (by push_cast; omega)
      · rcases List.mem_append.mp hz2 with z1 | z1
        · exact hz z z1
        · rw [List.mem_singleton] at z1; rw [z1]; exact ⟨sg_sign signs_sg hc, rfl⟩
    · rintro H2 ⟨k2, b2, zs, ez, hz, lz⟩
      have sum1 : (zs.map (·.length)).sum = zs.length := by
        have : ∀ zs : List Str, (∀ z ∈ zs, z.length = 1) → (zs.map (·.length)).sum = zs.length := by
          intro zs
          induction zs with
          | nil => intro _; rfl
          | cons z r ih => intro h; rw [List.map_cons, List.sum_cons, h z (by simp), ih fun y hy => h y (by simp [hy]), List.length_cons]; omega
        exact this zs fun z h => (hz z h).2
      have lj : (Txt.join "" zs).length = zs.length := by rw [join_sl, sum1]
      refine ⟨"", D, zs, rfl, rfl, .inl (SqL.of ez), (by rw [sum1, lz]; show _ + _ * 0 ≤ _; omega), ?_⟩
      exact q H2 _ (k1.kp.trans k2) (b2.more (by omega)) (sg_join fun y hy => (hz y hy).1) (by rw [lj]; omega)
end

end Lw
namespace Lw
open PySem PySem.Spec L2 FG
open PyProof.Rows hiding St
/-! ### things -/
theorem hide_in {H : Hp} {S : List Addr} {a : Addr} {o : HO} (h : a ∉ S) (e : H a = some o) : hide H S a = some o := hide_at.mpr ⟨h, e⟩
def spThing : Sp := fun vs H Q _ => ∃ (b : Addr) (n : Int), vs = [.ref b] ∧ BoxAt H b n ∧ n < 1000000 ∧ ∀ p H' xs ds, H p = none → Kp [b] H H' → BoxAt H' b (n + 20) → H' p = some (.lst xs) → DpDs (hide H' [b, p]) xs ds → (∀ d ∈ ds, okX d 40 4) → ds.length ≤ 5 → xs.length = ds.length → Q (.ref p) H'
theorem dp_some {H : Hp} {xs : List V} {ds : List PyData} (h : DpDs H xs ds) (g : ∀ d ∈ ds, okX d 40 4) {i : Int} (h0 : 0 ≤ i) (h1 : i < xs.length) : ∃ v d, atI xs i = some v ∧ DpD H v d ∧ okX d 40 4 := by
  have hlt : i.toNat < xs.length := by omega
  obtain ⟨d, hd, hv⟩ := dpDs_at h (i := i.toNat) (List.getElem?_eq_getElem hlt)
  refine ⟨_, d, ?_, hv, g d hd⟩
  obtain ⟨k, rfl⟩ : ∃ k : Nat, i = k := ⟨i.toNat, by omega⟩
  exact atI_nat (List.getElem?_eq_getElem hlt)
section
variable {P : Program} {w : World} {K : PySem.W.Frag} {mg : Str → Option Value} {base : Heap}
theorem ok_thing (T : Tx K mg) {fd : FuncData} (F : Fun K "_law_thing" "_law_thing" s__law_thing (He.ga K "_law_thing") fd) (c__law_take : Cal P w K mg base 1 "_law_take" spTake) : FnG P w K mg base 2 (He.ga K "_law_thing") fd ["_law_box_here"] spThing := by
  refine FnG.of F sc__law_thing (fun vs H Q E h => ?_) (fun cdv A outer sh H vs Q E hr h => ?_)
  · obtain ⟨b, n, rfl, _⟩ := h; rfl
  · obtain ⟨b, n, rfl, hb, hn, q⟩ := h
    have e9 : (10 : Int) ^ Int.toNat 9 = 1000000000 := by decide +kernel
    refine ⟨_, pss_cons (ps_set (i := 1) sc__law_thing.nd rfl (by first | exact Or.inl rfl | exact Or.inr rfl) (pe_lst (pa_cons (pe_op op_sub (gc c__law_take (hr.mono (by decide)) takes0 (pa_cons (pv 0) (pa_cons (pe_op op_pow (pe_int) (pe_int)) (pa_nil)))) (pe_int)) (pa_cons (pe_op op_mulS (pe_str) (gc c__law_take (hr.mono (by decide)) takes0 (pa_cons (pv 0) (pa_cons (pe_int) (pa_nil))))) (pa_cons (pe_non) (pa_cons (pe_bl) (pa_cons (pe_tup (pa_cons (pe_int) (pa_cons (pe_str) (pa_nil)))) (pa_cons (pe_lst (pa_nil)) (pa_cons (pe_lst (pa_cons (pe_int) (pa_cons (pe_lst (pa_cons (pe_str) (pa_nil))) (pa_nil)))) (pa_cons (pe_disp (pps_cons (pe_str) (pe_int) (pps_nil)) (by rfl) (by rfl) (fun z => by cases z) (by decide)) (pa_nil)))))))))))
      (pss_one (ps_ret (pe_lc (own := [("_law_k", 2)]) (g := gName 2) (tt := tYes) rfl sc__law_thing.nd (pi_range1 rfl T.z_range (pa_cons (gc c__law_take (hr.mono (by decide)) takes0 (pa_cons (pv 0) (pa_cons (pe_int) (pa_nil)))) (pa_nil))) (blkOk_by (own := [("_law_k", 2)]) (N := ["_law_box_here", "_law_some", "_law_k"]) (sc := defScope s__law_thing) (by decide +kernel)) (fun _ _ _ _ _ => pg_name (i := 2) sc__law_thing.nd rfl (by first | exact Or.inl rfl | exact Or.inr rfl)) (fun _ _ _ _ _ => by exact pts_nil) (fun _ _ _ _ _ => by exact pe_ix (kixL K) (pv 1) (gc c__law_take (hr.mono (by decide)) takes0 (pa_cons (pv 0) (pa_cons (pe_int) (pa_nil)))) (fun _ _ => rfl))))), ?_⟩
    refine ⟨_, rfl, _, _, rfl, rfl, ⟨by decide, by decide, by decide⟩, b, n, _, rfl, hb, by omega, by decide +kernel, by decide +kernel, fun H1 d k1 b1 d0 d1 => ⟨_, _, rfl, rfl, ?_⟩⟩
    rw [e9] at d1
    refine ⟨_, rfl, b, _, 7, rfl, b1, by omega, by decide, by decide, fun H2 m k2 b2 m0 m1 => ⟨_, 97, m, rfl, rfl, rfl, by omega, by omega, ?_⟩⟩
    obtain ⟨z, ez⟩ : ∃ z : Str, z = ⟨(List.replicate (Int.toNat m) 97).toArray⟩ := ⟨_, rfl⟩
    have zs : sgS z ∧ z.length ≤ 7 := by
      rw [ez]
      constructor
      · intro c hc
        have : c = 97 := List.eq_of_mem_replicate (show c ∈ List.replicate (Int.toNat m) 97 by simpa [sl] using hc)
        rw [this]; decide
      · rw [len_sl]
        show (List.replicate (Int.toNat m) 97).toArray.toList.length ≤ 7
        simp; omega
    rw [← ez]
    clear ez
    have K2 := k1.kp.trans k2.kp
    refine ⟨(by show 2 ≤ sizeLine; decide), fun t ht => ?_⟩
    have et : upd H2 t (.tup [.int 1, .str "b"]) t = some (.tup [.int 1, .str "b"]) := upd_same
    have j1 := (Kp.refl (S := []) (H := H2)).new (o := .tup [.int 1, .str "b"]) ht
    have nt := b2.ne ht
    have b3 := b2.kp j1 (by simp)
    generalize upd H2 t (.tup [.int 1, .str "b"]) = H3 at *
    refine ⟨(by show 0 ≤ sizeLine; decide), fun l6 h6 => ?_⟩
    have e6 : upd H3 l6 (.lst []) l6 = some (.lst []) := upd_same
    have j2 := (Kp.refl (S := []) (H := H3)).new (o := .lst []) h6
    have n6 := b3.ne h6
    have b4 := b3.kp j2 (by simp)
    have et := j2 _ _ et (by simp)
    generalize upd H3 l6 (.lst []) = H4 at *
    refine ⟨(by show 1 ≤ sizeLine; decide), fun l7 h7 => ?_⟩
    have e7 : upd H4 l7 (.lst [.str "c"]) l7 = some (.lst [.str "c"]) := upd_same
    have j3 := (Kp.refl (S := []) (H := H4)).new (o := .lst [.str "c"]) h7
    have n7 := b4.ne h7
    have b5 := b4.kp j3 (by simp)
    have et := j3 _ _ et (by simp)
    have e6 := j3 _ _ e6 (by simp)
    generalize upd H4 l7 (.lst [.str "c"]) = H5 at *
    refine ⟨(by show 2 ≤ sizeLine; decide), fun l8 h8 => ?_⟩
    have e8 : upd H5 l8 (.lst [.int 2, .ref l7]) l8 = some (.lst [.int 2, .ref l7]) := upd_same
    have j4 := (Kp.refl (S := []) (H := H5)).new (o := .lst [.int 2, .ref l7]) h8
    have n8 := b5.ne h8
    have b6 := b5.kp j4 (by simp)
    have et := j4 _ _ et (by simp)
    have e6 := j4 _ _ e6 (by simp)
    have e7 := j4 _ _ e7 (by simp)
    generalize upd H5 l8 (.lst [.int 2, .ref l7]) = H6 at *
    refine fun p9 h9 => ⟨upd_same, [(.inr "d", .int 1)], rfl, by decide, ?_⟩
    obtain ⟨H7, eH7⟩ : ∃ H7, H7 = upd (upd H6 p9 (.dK [])) p9 (.dK (mergeK [] [(.inr "d", .int 1)])) := ⟨_, rfl⟩
    have e9 : H7 p9 = some (.dK [(.inr "d", .int 1)]) := by rw [eH7, upd_same]; rfl
    have j5 : Kp [] H6 H7 := fun x o e _ => by rw [eH7, upd_ne (ne_of_none e h9), upd_ne (ne_of_none e h9)]; exact e
    have n9 := b6.ne h9
    have b7 := b6.kp j5 (by simp)
    have et := j5 _ _ et (by simp)
    have e6 := j5 _ _ e6 (by simp)
    have e7 := j5 _ _ e7 (by simp)
    have e8 := j5 _ _ e8 (by simp)
    rw [← eH7]
    clear eH7
    obtain ⟨its, eits⟩ : ∃ its, its = [V.int (d - 5), .str z, .non, .bl true, .ref t, .ref l6, .ref l8, .ref p9] := ⟨_, rfl⟩
    have hits : DpDs (hide H7 [b]) its [.int (d - 5), .str z, .none, .bool true, .tuple [.int 1, .str "b"], .list [], .list [.int 2, .list [.str "c"]], .dict [(.str "d", .int 1)]] := by
      have hi : ∀ {a : Addr} {o : HO}, a ≠ b → H7 a = some o → hide H7 [b] a = some o := fun h e => hide_in (by simpa using h) e
      rw [eits]
      exact .cons (.int _) (.cons (.str _) (.cons .non (.cons (.bl _) (.cons (.tup (hi nt et) (.cons (.int _) (.cons (.str _) .nil))) (.cons (.lst (hi n6 e6) .nil) (.cons (.lst (hi n8 e8) (.cons (.int _) (.cons (.lst (hi n7 e7) (.cons (.str _) .nil)) .nil))) (.cons (.dct (hi n9 e9) (.int _)) .nil)))))))
    have sgc : ∀ {x : Str}, ((sl x).all fun c => decide (c < 16 ^ 8)) = true → sgS x := fun h c hc => of_decide_eq_true (List.all_eq_true.mp h c hc)
    have hok : ∀ e ∈ [PyData.int (d - 5), .str z, .none, .bool true, .tuple [.int 1, .str "b"], .list [], .list [.int 2, .list [.str "c"]], .dict [(.str "d", .int 1)]], okX e 40 4 := by
      have e38 : (10 : Nat) ^ 38 = 100000000000000000000000000000000000000 := by decide +kernel
      have i1 : ∀ i : Int, i.natAbs ≤ 2000000000 → okX (.int i) 1 0 := fun i h => (okX_int (by rw [e38]; omega)).more (by omega) (by omega)
      have s1 : ∀ x : Str, ((sl x).all fun c => decide (c < 16 ^ 8)) = true → x.length ≤ 1 → okX (.str x) 1 0 := fun x h g => (okX_str (sgc h)).more g (by omega)
      intro e he
      simp only [List.mem_cons, List.not_mem_nil, or_false] at he
      rcases he with rfl | rfl | rfl | rfl | rfl | rfl | rfl | rfl
      · exact (i1 _ (by omega)).more (by omega) (by omega)
      · exact (okX_str zs.1).more (by have := zs.2; omega) (by omega)
      · exact okX_non.more (by omega) (by omega)
      · exact (okX_bl _).more (by omega) (by omega)
      · refine (okX_tup (B := 1) (D := 0) fun x hx => ?_).more (by decide) (by omega)
        simp only [List.mem_cons, List.not_mem_nil, or_false] at hx
        rcases hx with rfl | rfl
        · exact i1 1 (by decide)
        · exact s1 _ (by decide +kernel) (by decide +kernel)
      · exact (okX_lst (B := 0) (D := 0) fun x hx => by cases hx).more (by decide) (by omega)
      · refine (okX_lst (B := 2) (D := 1) fun x hx => ?_).more (by decide) (by omega)
        simp only [List.mem_cons, List.not_mem_nil, or_false] at hx
        rcases hx with rfl | rfl
        · exact (i1 2 (by decide)).more (by omega) (by omega)
        · refine (okX_lst (B := 1) (D := 0) fun x hx => ?_).more (by decide) (by omega)
          rw [List.mem_singleton] at hx
          rw [hx]; exact s1 _ (by decide +kernel) (by decide +kernel)
      · exact (okX_dct (s1 _ (by decide +kernel) (by decide +kernel)) (i1 1 (by decide))).more (by omega) (by omega)
    generalize [PyData.int (d - 5), .str z, .none, .bool true, .tuple [.int 1, .str "b"], .list [], .list [.int 2, .list [.str "c"]], .dict [(.str "d", .int 1)]] = dits at *
    have hlen : its.length = 8 := by rw [eits]; rfl
    refine ⟨(by show 8 ≤ sizeLine; decide), fun r hr2 => ?_⟩
    rw [← eits]
    have er : upd H7 r (.lst its) r = some (.lst its) := upd_same
    have j6 := (Kp.refl (S := []) (H := H7)).new (o := .lst its) hr2
    have nr := b7.ne hr2
    have b8 := b7.kp j6 (by simp)
    have hits := DpD.monos (fun a o e => (hide_in (hide_at.mp e).1 (j6 _ _ (hide_at.mp e).2 (by simp)) : hide (upd H7 r (.lst its)) [b] a = some o)) _ _ hits
    have K8 : Kp [b] H (upd H7 r (.lst its)) := ((((((K2.trans (j1.mono (by simp))).trans (j2.mono (by simp))).trans (j3.mono (by simp))).trans (j4.mono (by simp))).trans (j5.mono (by simp))).trans (j6.mono (by simp)))
    generalize upd H7 r (.lst its) = H8 at *
    clear eits
    walk_at "nx"
    refine ⟨_, rfl, b, _, 5, rfl, b8, by omega, by decide, by decide, fun H9 mm k9 b9 m90 m91 => ⟨_, rfl, (by omega), (by omega), fun D hD => ?_⟩⟩
    have er9 := (k9 r nr).trans er
    have hD8 : ∀ a o, H8 a = some o → a ≠ b → a ≠ D := fun a o e n c => by
      have := (k9 a n).trans e
      rw [c, hD] at this; cases this
    have nD : D ≠ b := b9.ne hD
    refine lc_range (lo := 0) (n := _) (fun i H' => Kp [b] H9 H' ∧ BoxAt H' b (n + 3 + i) ∧ ∃ xs ds, H' D = some (.lst xs) ∧ DpDs (hide H8 [b]) xs ds ∧ (∀ d ∈ ds, okX d 40 4) ∧ ds.length = i ∧ xs.length = i) ⟨Kp.refl.new hD, (b9.new hD).more (by omega), [], [], upd_same, .nil, (fun _ z => by cases z), rfl, rfl⟩ ?_ ?_
    · rintro i Ha hi ⟨ka, ba, xs, ds, ea, ha, ga, la, lx⟩
      refine ⟨rfl, _, rfl, _, rfl, b, _, 8, rfl, ba, by omega, by decide, by decide, fun Hb e kb bb g0 g1 => ?_⟩
      obtain ⟨v, dv, ev, hv, gv⟩ := dp_some hits hok g0 (by rw [hlen]; exact g1)
      have ka' : Ha r = some (.lst its) := ka r _ er9 (by simpa using nr)
      refine ⟨r, _, _, _, rfl, rfl, SqL.of ((kb r nr).trans ka'), ev, xs, (kb D nD).trans ea, (by rw [lx]; exact sz_lt (by omega)), fun x o e hx => (upd_ne (ne_of_none e hD)).trans ((ka.trans kb.kp) x o e hx), ?_, xs ++ [v], ds ++ [dv], upd_same, dpDs_snoc ha hv, fun y hy => ?_, by rw [List.length_append, la]; rfl, by rw [List.length_append, lx]; rfl⟩
      · exact (bb.kp (S := [D]) (fun x o e n => (upd_ne (by simpa using n)).trans e) (by simpa using nD.symm)).more (by push_cast; omega)
      · rcases List.mem_append.mp hy with y1 | y1
        · exact ga y y1
        · rw [List.mem_singleton] at y1; rw [y1]; exact gv
    · rintro Ha ⟨ka, ba, xs, ds, ea, ha, ga, la, lx⟩
      have K9 : Kp [b] H Ha := (K8.trans k9.kp).trans ka
      refine q D Ha xs ds ((K8.trans k9.kp).fr1 b9 hD) K9 (ba.more (by omega)) ea (DpD.monos (fun a o e => ?_) _ _ ha) ga (by omega) (by omega)
      obtain ⟨h1, h2⟩ := hide_at.mp e
      have nab : a ≠ b := by simpa using h1
      refine hide_in ?_ (ka a o ((k9 a nab).trans h2) h1)
      simp only [List.mem_cons, List.not_mem_nil, or_false, not_or]
      exact ⟨nab, hD8 a o h2 nab⟩
end

end Lw
namespace Lw
open PySem PySem.Spec L2 FG
open PyProof.Rows hiding St
/-! ### refusals made -/
/-- at t a refusal and the name of its field, made of v -/
def PairAt (K : PySem.W.Frag) (H : Hp) (v : V) (t : Addr) (p : Str × Str) : Prop := ∃ a, H t = some (.tup [.ref a, .str p.2]) ∧ Xv H a (He.ga K p.1) [(p.2, v)]
theorem PairAt.kp {K : PySem.W.Frag} {H H' : Hp} {v : V} {t : Addr} {p : Str × Str} (h : PairAt K H v t p) (k : ∀ b o, H b = some o → H' b = some o) : PairAt K H' v t p := by
  obtain ⟨a, e, x⟩ := h
  exact ⟨a, k _ _ e, x.kp k⟩
def ENT22 : List (Str × Str) := [("NoNumber", "found"), ("NoName", "found"), ("NoValue", "found"), ("NoFrame", "found"), ("NoWay", "found"), ("NoCell", "found"), ("NoHands", "found"), ("NoDeed", "found"), ("NoChoices", "found"), ("NoMaking", "found"), ("NoManner", "found"), ("NoNames", "found"), ("NoLine", "found"), ("TooMany", "many"), ("TooWide", "many"), ("TooLong", "many"), ("Kept", "ways"), ("TooDeep", "depth"), ("Twice", "label"), ("NoLabel", "label"), ("NotStraight", "number"), ("NoText", "line")]
/-- what is made: class, field, fields, whether of the second thing -/
structure En where
  (c f : Str) (o : Bool)
def EntAt (K : PySem.W.Frag) (H : Hp) (v u : V) (t : Addr) (e : En) : Prop := ∃ a fs kvs, H t = some (.tup [.ref a, .str e.f, if e.o then u else v]) ∧ (e.c, fs) ∈ FLDS ∧ e.f ∈ fs ∧ Xv H a (He.ga K e.c) kvs ∧ kvs.lookup e.f = some (if e.o then u else v)
theorem EntAt.kp {K : PySem.W.Frag} {H H' : Hp} {v u : V} {t : Addr} {e : En} (h : EntAt K H v u t e) (k : ∀ b o, H b = some o → H' b = some o) : EntAt K H' v u t e := by
  obtain ⟨a, fs, kvs, e1, h1, h2, x, h3⟩ := h
  exact ⟨a, fs, kvs, k _ _ e1, h1, h2, x.kp k, h3⟩
def ENTS : List En := (ENT22.map fun p => ⟨p.1, p.2, false⟩) ++ [⟨"Gone", "found", false⟩, ⟨"Gone", "by", true⟩, ⟨"Full", "need", true⟩, ⟨"Full", "spare", false⟩]
def spMade (K : PySem.W.Frag) : Sp := fun vs H Q _ => ∃ (v u : V), vs = [v, u] ∧ ∀ l H' ts, H l = none → Kp [] H H' → H' l = some (.lst (ts.map V.ref)) → Paired (EntAt K H' v u) ts ENTS → Q (.ref l) H'
theorem paired_app {α β : Type} {R : α → β → Prop} {as as' : List α} {bs bs' : List β} (h : Paired R as bs) (g : Paired R as' bs') : Paired R (as ++ as') (bs ++ bs') := by
  induction h with
  | nil => exact g
  | cons a _ ih => exact .cons a ih
theorem paired_snoc {α β : Type} {R : α → β → Prop} {as : List α} {bs : List β} {a : α} {b : β} (h : Paired R as bs) (g : R a b) : Paired R (as ++ [a]) (bs ++ [b]) := paired_app h (.cons g .nil)
theorem paired_map {α β : Type} {R R' : α → β → Prop} {as : List α} {bs : List β} (h : Paired R as bs) (g : ∀ a b, R a b → R' a b) : Paired R' as bs := by
  induction h with
  | nil => exact .nil
  | cons a _ ih => exact .cons (g _ _ a) ih
theorem paired_get {α β : Type} {R : α → β → Prop} {as : List α} {bs : List β} (h : Paired R as bs) : ∀ {i : Nat} {a : α}, as[i]? = some a → ∃ b, bs[i]? = some b ∧ R a b := by
  induction h with
  | nil => intro i a e; cases e
  | @cons x y xs ys h0 _ ih =>
    intro i a e
    cases i with
    | zero => cases e; exact ⟨y, rfl, h0⟩
    | succ i => exact ih (i := i) e
theorem pair_more {K : PySem.W.Frag} {L H1 : Hp} {D a p : Addr} {v : V} {i : Nat} {ts als : List Addr} {cl : List (Str × Str)} {cf : Str × Str} (hD : L D = none) (et : H1 D = some (.lst (ts.map V.ref))) (pr : Paired (PairAt K H1 v) ts (cl.take i)) (hp : H1 p = none) (ha : als[i]? = some a) (hcf : cl[i]? = some cf)
    (hx : Xv L a (He.ga K cf.1) [(cf.2, v)]) (ki : ∀ b o, L b = some o → H1 b = some o) (c4 : cl.length ≤ 4) : ∃ acc, upd H1 p (.tup [.ref a, .str cf.2]) D = some (.lst acc) ∧ acc.length < sizeLine ∧ (∀ b o, L b = some o → upd (upd H1 p (.tup [.ref a, .str cf.2])) D (.lst (acc ++ [.ref p])) b = some o) ∧
    ∃ ts : List Addr, upd (upd H1 p (.tup [.ref a, .str cf.2])) D (.lst (acc ++ [.ref p])) D = some (.lst (ts.map V.ref)) ∧ Paired (PairAt K (upd (upd H1 p (.tup [.ref a, .str cf.2])) D (.lst (acc ++ [.ref p]))) v) ts (cl.take (i + 1)) := by
  have hil := (List.getElem?_eq_some_iff.mp hcf).1
  have kP : ∀ b o, H1 b = some o → upd H1 p (.tup [.ref a, .str cf.2]) b = some o := fun b o e => (upd_ne (ne_of_none e hp)).trans e
  have eP : upd H1 p (.tup [.ref a, .str cf.2]) p = some (.tup [.ref a, .str cf.2]) := upd_same
  generalize upd H1 p (.tup [.ref a, .str cf.2]) = H2 at *
  have eD := kP _ _ et
  have lts := Paired.length pr
  rw [List.length_take] at lts
  have k7 : ∀ b o, b ≠ D → H2 b = some o → upd H2 D (.lst (ts.map V.ref ++ [.ref p])) b = some o := fun b o n e => (upd_ne n).trans e
  have up : ∀ {t : Addr} {q : Str × Str}, PairAt K H2 v t q → PairAt K (upd H2 D (.lst (ts.map V.ref ++ [.ref p]))) v t q := fun ⟨a2, e2, x2⟩ => by
    have nl : ∀ {b : Addr} {o : HO}, H2 b = some o → (∀ xs, o ≠ .lst xs) → b ≠ D := fun e n z => by rw [z, eD] at e; exact n _ (Option.some.inj e).symm
    refine ⟨a2, k7 _ _ (nl e2 (fun xs z => by cases z)) e2, ?_⟩
    rcases x2 with ⟨d, f1, f2⟩ | ⟨t2, f1, f2⟩
    · exact .inl ⟨d, k7 _ _ (nl f1 (fun xs z => by cases z)) f1, k7 _ _ (nl f2 (fun xs z => by cases z)) f2⟩
    · cases f2
  refine ⟨_, eD, (by rw [List.length_map]; exact sz_lt (by omega)), fun b o e => k7 b o (ne_of_none e hD) (kP _ _ (ki _ _ e)), ts ++ [p], by rw [upd_same, List.map_append]; rfl, ?_⟩
  rw [List.take_succ_eq_append_getElem hil, (List.getElem?_eq_some_iff.mp hcf).2]
  exact paired_snoc (paired_map pr fun t q h => up (h.kp kP)) (up ⟨a, eP, hx.kp fun b o e => kP _ _ (ki _ _ e)⟩)
theorem ent_more {K : PySem.W.Frag} {L H1 : Hp} {D a p : Addr} {v u : V} {i : Nat} {ts : List Addr} {cf : Str × Str} (hD : L D = none) (et : H1 D = some (.lst (ts.map V.ref))) (pr : Paired (EntAt K H1 v u) ts ((ENT22.take i).map fun p => (⟨p.1, p.2, false⟩ : En))) (hp : H1 p = none) (hcf : ENT22[i]? = some cf)
    (hf : (cf.1, [cf.2]) ∈ FLDS) (hx : Xv L a (He.ga K cf.1) [(cf.2, v)]) (ki : ∀ b o, L b = some o → H1 b = some o) : ∃ acc, upd H1 p (.tup [.ref a, .str cf.2, v]) D = some (.lst acc) ∧ acc.length < sizeLine ∧ (∀ b o, L b = some o → upd (upd H1 p (.tup [.ref a, .str cf.2, v])) D (.lst (acc ++ [.ref p])) b = some o) ∧
    ∃ ts : List Addr, upd (upd H1 p (.tup [.ref a, .str cf.2, v])) D (.lst (acc ++ [.ref p])) D = some (.lst (ts.map V.ref)) ∧ Paired (EntAt K (upd (upd H1 p (.tup [.ref a, .str cf.2, v])) D (.lst (acc ++ [.ref p]))) v u) ts ((ENT22.take (i + 1)).map fun p => (⟨p.1, p.2, false⟩ : En)) := by
  have hil := (List.getElem?_eq_some_iff.mp hcf).1
  have kP : ∀ b o, H1 b = some o → upd H1 p (.tup [.ref a, .str cf.2, v]) b = some o := fun b o e => (upd_ne (ne_of_none e hp)).trans e
  have eP : upd H1 p (.tup [.ref a, .str cf.2, v]) p = some (.tup [.ref a, .str cf.2, v]) := upd_same
  generalize upd H1 p (.tup [.ref a, .str cf.2, v]) = H2 at *
  have eD := kP _ _ et
  have lts := Paired.length pr
  rw [List.length_map, List.length_take] at lts
  have k7 : ∀ b o, b ≠ D → H2 b = some o → upd H2 D (.lst (ts.map V.ref ++ [.ref p])) b = some o := fun b o n e => (upd_ne n).trans e
  have up : ∀ {t : Addr} {q : En}, EntAt K H2 v u t q → EntAt K (upd H2 D (.lst (ts.map V.ref ++ [.ref p]))) v u t q := fun ⟨a2, fs, kvs, e2, h1, h2, x2, h3⟩ => by
    have nl : ∀ {b : Addr} {o : HO}, H2 b = some o → (∀ xs, o ≠ .lst xs) → b ≠ D := fun e n z => by rw [z, eD] at e; exact n _ (Option.some.inj e).symm
    refine ⟨a2, fs, kvs, k7 _ _ (nl e2 (fun xs z => by cases z)) e2, h1, h2, ?_, h3⟩
    rcases x2 with ⟨d, f1, f2⟩ | ⟨t2, f1, f2⟩
    · exact .inl ⟨d, k7 _ _ (nl f1 (fun xs z => by cases z)) f1, k7 _ _ (nl f2 (fun xs z => by cases z)) f2⟩
    · subst f2; cases h3
  have l22 : ENT22.length = 22 := rfl
  refine ⟨_, eD, (by rw [List.length_map]; exact sz_lt (by omega)), fun b o e => k7 b o (ne_of_none e hD) (kP _ _ (ki _ _ e)), ts ++ [p], by rw [upd_same, List.map_append]; rfl, ?_⟩
  rw [List.take_succ_eq_append_getElem hil, (List.getElem?_eq_some_iff.mp hcf).2, List.map_append]
  have lk : [(cf.2, v)].lookup cf.2 = some v := by simp [List.lookup]
  exact paired_snoc (paired_map pr fun t q h => up (h.kp kP)) (up ⟨a, [cf.2], _, eP, hf, List.mem_singleton.mpr rfl, hx.kp fun b o e => kP _ _ (ki _ _ e), lk⟩)
section
variable {P : Program} {w : World} {K : PySem.W.Frag} {mg : Str → Option Value} {base : Heap}
theorem ok_made (T : Tx K mg) {fd : FuncData} (F : Fun K "_law_made" "_law_made" s__law_made (He.ga K "_law_made") fd) : FnG P w K mg base 3 (He.ga K "_law_made") fd ["_law_thing_here", "_law_more"] (spMade K) := by
  refine FnG.of F sc__law_made (fun vs H Q E h => ?_) (fun cdv A outer sh H vs Q E hr h => ?_)
  · obtain ⟨v, u, rfl, _⟩ := h; rfl
  · obtain ⟨v, u, rfl, q⟩ := h
    have fld : ∀ p ∈ ENT22, (p.1, [p.2]) ∈ FLDS := by
      have all : (ENT22.all fun p => FLDS.contains (p.1, [p.2])) = true := by decide +kernel
      intro p hp
      simpa using List.all_eq_true.mp all p hp
    refine ⟨_, pss_cons (ps_set (i := 2) sc__law_made.nd rfl (by first | exact Or.inl rfl | exact Or.inr rfl) (pe_lst (pa_nil)))
      (pss_cons (ps_set (i := 2) sc__law_made.nd rfl (by first | exact Or.inl rfl | exact Or.inr rfl) (pe_op op_cat (pv 2) (pe_lc (own := [("_law_one", 3)]) (g := gName 3) (tt := tYes) rfl sc__law_made.nd (kiL K (pe_lst (pa_cons (pe_xmk (rai_NoNumber T) (hr.mono (by decide)) (pa_cons (pv 0) (pa_nil))) (pa_cons (pe_xmk (rai_NoName T) (hr.mono (by decide)) (pa_cons (pv 0) (pa_nil))) (pa_cons (pe_xmk (rai_NoValue T) (hr.mono (by decide)) (pa_cons (pv 0) (pa_nil))) (pa_cons (pe_xmk (rai_NoFrame T) (hr.mono (by decide)) (pa_cons (pv 0) (pa_nil))) (pa_nil))))))) (blkOk_by (own := [("_law_one", 3)]) (N := ["_law_thing_here", "_law_more", "_law_made_here", "_law_one", "_law_found", "_law_name", "_law_gone", "_law_full"]) (sc := defScope s__law_made) (by decide +kernel)) (fun _ _ _ _ _ => pg_name (i := 3) sc__law_made.nd rfl (by first | exact Or.inl rfl | exact Or.inr rfl)) (fun _ _ _ _ _ => by exact pts_nil) (fun _ _ _ _ _ => by exact pe_tup (pa_cons (pv 3) (pa_cons (pe_str) (pa_nil)))))))
      (pss_cons (ps_set (i := 2) sc__law_made.nd rfl (by first | exact Or.inl rfl | exact Or.inr rfl) (pe_op op_cat (pv 2) (pe_lc (own := [("_law_one", 3)]) (g := gName 3) (tt := tYes) rfl sc__law_made.nd (kiL K (pe_lst (pa_cons (pe_xmk (rai_NoWay T) (hr.mono (by decide)) (pa_cons (pv 0) (pa_nil))) (pa_cons (pe_xmk (rai_NoCell T) (hr.mono (by decide)) (pa_cons (pv 0) (pa_nil))) (pa_cons (pe_xmk (rai_NoHands T) (hr.mono (by decide)) (pa_cons (pv 0) (pa_nil))) (pa_cons (pe_xmk (rai_NoDeed T) (hr.mono (by decide)) (pa_cons (pv 0) (pa_nil))) (pa_nil))))))) (blkOk_by (own := [("_law_one", 3)]) (N := ["_law_thing_here", "_law_more", "_law_made_here", "_law_one", "_law_found", "_law_name", "_law_gone", "_law_full"]) (sc := defScope s__law_made) (by decide +kernel)) (fun _ _ _ _ _ => pg_name (i := 3) sc__law_made.nd rfl (by first | exact Or.inl rfl | exact Or.inr rfl)) (fun _ _ _ _ _ => by exact pts_nil) (fun _ _ _ _ _ => by exact pe_tup (pa_cons (pv 3) (pa_cons (pe_str) (pa_nil)))))))
      (pss_cons (ps_set (i := 2) sc__law_made.nd rfl (by first | exact Or.inl rfl | exact Or.inr rfl) (pe_op op_cat (pv 2) (pe_lc (own := [("_law_one", 3)]) (g := gName 3) (tt := tYes) rfl sc__law_made.nd (kiL K (pe_lst (pa_cons (pe_xmk (rai_NoChoices T) (hr.mono (by decide)) (pa_cons (pv 0) (pa_nil))) (pa_cons (pe_xmk (rai_NoMaking T) (hr.mono (by decide)) (pa_cons (pv 0) (pa_nil))) (pa_cons (pe_xmk (rai_NoManner T) (hr.mono (by decide)) (pa_cons (pv 0) (pa_nil))) (pa_cons (pe_xmk (rai_NoNames T) (hr.mono (by decide)) (pa_cons (pv 0) (pa_nil))) (pa_nil))))))) (blkOk_by (own := [("_law_one", 3)]) (N := ["_law_thing_here", "_law_more", "_law_made_here", "_law_one", "_law_found", "_law_name", "_law_gone", "_law_full"]) (sc := defScope s__law_made) (by decide +kernel)) (fun _ _ _ _ _ => pg_name (i := 3) sc__law_made.nd rfl (by first | exact Or.inl rfl | exact Or.inr rfl)) (fun _ _ _ _ _ => by exact pts_nil) (fun _ _ _ _ _ => by exact pe_tup (pa_cons (pv 3) (pa_cons (pe_str) (pa_nil)))))))
      (pss_cons (ps_set (i := 2) sc__law_made.nd rfl (by first | exact Or.inl rfl | exact Or.inr rfl) (pe_op op_cat (pv 2) (pe_lc (own := [("_law_one", 3)]) (g := gName 3) (tt := tYes) rfl sc__law_made.nd (kiL K (pe_lst (pa_cons (pe_xmk (rai_NoLine T) (hr.mono (by decide)) (pa_cons (pv 0) (pa_nil))) (pa_nil)))) (blkOk_by (own := [("_law_one", 3)]) (N := ["_law_thing_here", "_law_more", "_law_made_here", "_law_one", "_law_found", "_law_name", "_law_gone", "_law_full"]) (sc := defScope s__law_made) (by decide +kernel)) (fun _ _ _ _ _ => pg_name (i := 3) sc__law_made.nd rfl (by first | exact Or.inl rfl | exact Or.inr rfl)) (fun _ _ _ _ _ => by exact pts_nil) (fun _ _ _ _ _ => by exact pe_tup (pa_cons (pv 3) (pa_cons (pe_str) (pa_nil)))))))
      (pss_cons (ps_set (i := 2) sc__law_made.nd rfl (by first | exact Or.inl rfl | exact Or.inr rfl) (pe_op op_cat (pv 2) (pe_lc (own := [("_law_one", 3)]) (g := gName 3) (tt := tYes) rfl sc__law_made.nd (kiL K (pe_lst (pa_cons (pe_xmk (rai_TooMany T) (hr.mono (by decide)) (pa_cons (pv 0) (pa_nil))) (pa_cons (pe_xmk (rai_TooWide T) (hr.mono (by decide)) (pa_cons (pv 0) (pa_nil))) (pa_cons (pe_xmk (rai_TooLong T) (hr.mono (by decide)) (pa_cons (pv 0) (pa_nil))) (pa_nil)))))) (blkOk_by (own := [("_law_one", 3)]) (N := ["_law_thing_here", "_law_more", "_law_made_here", "_law_one", "_law_found", "_law_name", "_law_gone", "_law_full"]) (sc := defScope s__law_made) (by decide +kernel)) (fun _ _ _ _ _ => pg_name (i := 3) sc__law_made.nd rfl (by first | exact Or.inl rfl | exact Or.inr rfl)) (fun _ _ _ _ _ => by exact pts_nil) (fun _ _ _ _ _ => by exact pe_tup (pa_cons (pv 3) (pa_cons (pe_str) (pa_nil)))))))
      (pss_cons (ps_set (i := 2) sc__law_made.nd rfl (by first | exact Or.inl rfl | exact Or.inr rfl) (pe_op op_cat (pv 2) (pe_lc (own := [("_law_one", 3)]) (g := gName 3) (tt := tYes) rfl sc__law_made.nd (kiL K (pe_lst (pa_cons (pe_xmk (rai_Kept T) (hr.mono (by decide)) (pa_cons (pv 0) (pa_nil))) (pa_nil)))) (blkOk_by (own := [("_law_one", 3)]) (N := ["_law_thing_here", "_law_more", "_law_made_here", "_law_one", "_law_found", "_law_name", "_law_gone", "_law_full"]) (sc := defScope s__law_made) (by decide +kernel)) (fun _ _ _ _ _ => pg_name (i := 3) sc__law_made.nd rfl (by first | exact Or.inl rfl | exact Or.inr rfl)) (fun _ _ _ _ _ => by exact pts_nil) (fun _ _ _ _ _ => by exact pe_tup (pa_cons (pv 3) (pa_cons (pe_str) (pa_nil)))))))
      (pss_cons (ps_set (i := 2) sc__law_made.nd rfl (by first | exact Or.inl rfl | exact Or.inr rfl) (pe_op op_cat (pv 2) (pe_lc (own := [("_law_one", 3)]) (g := gName 3) (tt := tYes) rfl sc__law_made.nd (kiL K (pe_lst (pa_cons (pe_xmk (rai_TooDeep T) (hr.mono (by decide)) (pa_cons (pv 0) (pa_nil))) (pa_nil)))) (blkOk_by (own := [("_law_one", 3)]) (N := ["_law_thing_here", "_law_more", "_law_made_here", "_law_one", "_law_found", "_law_name", "_law_gone", "_law_full"]) (sc := defScope s__law_made) (by decide +kernel)) (fun _ _ _ _ _ => pg_name (i := 3) sc__law_made.nd rfl (by first | exact Or.inl rfl | exact Or.inr rfl)) (fun _ _ _ _ _ => by exact pts_nil) (fun _ _ _ _ _ => by exact pe_tup (pa_cons (pv 3) (pa_cons (pe_str) (pa_nil)))))))
      (pss_cons (ps_set (i := 2) sc__law_made.nd rfl (by first | exact Or.inl rfl | exact Or.inr rfl) (pe_op op_cat (pv 2) (pe_lc (own := [("_law_one", 3)]) (g := gName 3) (tt := tYes) rfl sc__law_made.nd (kiL K (pe_lst (pa_cons (pe_xmk (rai_Twice T) (hr.mono (by decide)) (pa_cons (pv 0) (pa_nil))) (pa_cons (pe_xmk (rai_NoLabel T) (hr.mono (by decide)) (pa_cons (pv 0) (pa_nil))) (pa_nil))))) (blkOk_by (own := [("_law_one", 3)]) (N := ["_law_thing_here", "_law_more", "_law_made_here", "_law_one", "_law_found", "_law_name", "_law_gone", "_law_full"]) (sc := defScope s__law_made) (by decide +kernel)) (fun _ _ _ _ _ => pg_name (i := 3) sc__law_made.nd rfl (by first | exact Or.inl rfl | exact Or.inr rfl)) (fun _ _ _ _ _ => by exact pts_nil) (fun _ _ _ _ _ => by exact pe_tup (pa_cons (pv 3) (pa_cons (pe_str) (pa_nil)))))))
      (pss_cons (ps_set (i := 2) sc__law_made.nd rfl (by first | exact Or.inl rfl | exact Or.inr rfl) (pe_op op_cat (pv 2) (pe_lc (own := [("_law_one", 3)]) (g := gName 3) (tt := tYes) rfl sc__law_made.nd (kiL K (pe_lst (pa_cons (pe_xmk (rai_NotStraight T) (hr.mono (by decide)) (pa_cons (pv 0) (pa_nil))) (pa_nil)))) (blkOk_by (own := [("_law_one", 3)]) (N := ["_law_thing_here", "_law_more", "_law_made_here", "_law_one", "_law_found", "_law_name", "_law_gone", "_law_full"]) (sc := defScope s__law_made) (by decide +kernel)) (fun _ _ _ _ _ => pg_name (i := 3) sc__law_made.nd rfl (by first | exact Or.inl rfl | exact Or.inr rfl)) (fun _ _ _ _ _ => by exact pts_nil) (fun _ _ _ _ _ => by exact pe_tup (pa_cons (pv 3) (pa_cons (pe_str) (pa_nil)))))))
      (pss_cons (ps_set (i := 2) sc__law_made.nd rfl (by first | exact Or.inl rfl | exact Or.inr rfl) (pe_op op_cat (pv 2) (pe_lc (own := [("_law_one", 3)]) (g := gName 3) (tt := tYes) rfl sc__law_made.nd (kiL K (pe_lst (pa_cons (pe_xmk (rai_NoText T) (hr.mono (by decide)) (pa_cons (pv 0) (pa_nil))) (pa_nil)))) (blkOk_by (own := [("_law_one", 3)]) (N := ["_law_thing_here", "_law_more", "_law_made_here", "_law_one", "_law_found", "_law_name", "_law_gone", "_law_full"]) (sc := defScope s__law_made) (by decide +kernel)) (fun _ _ _ _ _ => pg_name (i := 3) sc__law_made.nd rfl (by first | exact Or.inl rfl | exact Or.inr rfl)) (fun _ _ _ _ _ => by exact pts_nil) (fun _ _ _ _ _ => by exact pe_tup (pa_cons (pv 3) (pa_cons (pe_str) (pa_nil)))))))
      (pss_cons (ps_setLc (i := 4) (own := [("_law_one", 3), ("_law_name", 5)]) (g := gTup K 2 (gCons (gName 3) (gCons (gName 5) (gNil)))) (tt := tYes) rfl sc__law_made.nd rfl rfl (sw_true rfl rfl rfl (by decide +kernel)) (kiL K (pv 2)) (blkOk_by (own := [("_law_one", 3), ("_law_name", 5)]) (N := ["_law_thing_here", "_law_more", "_law_made_here", "_law_one", "_law_found", "_law_name", "_law_gone", "_law_full"]) (sc := defScope s__law_made) (by decide +kernel)) (fun _ _ _ _ _ => by exact kgT K rfl (pgs_cons (pg_name (i := 3) sc__law_made.nd rfl (by first | exact Or.inl rfl | exact Or.inr rfl)) (pgs_cons (pg_name (i := 5) sc__law_made.nd rfl (by first | exact Or.inl rfl | exact Or.inr rfl)) (pgs_nil)))) (fun _ _ _ _ _ => by exact pts_nil) (fun _ _ _ _ _ => by exact pe_tup (pa_cons (pv 3) (pa_cons (pv 5) (pa_cons (pv 0) (pa_nil))))))
      (pss_cons (ps_set (i := 6) sc__law_made.nd rfl (by first | exact Or.inl rfl | exact Or.inr rfl) (pe_xmk (rai_Gone T) (hr.mono (by decide)) (pa_cons (pv 0) (pa_cons (pv 1) (pa_nil)))))
      (pss_cons (ps_set (i := 7) sc__law_made.nd rfl (by first | exact Or.inl rfl | exact Or.inr rfl) (pe_xmk (rai_Full T) (hr.mono (by decide)) (pa_cons (pv 1) (pa_cons (pv 0) (pa_nil)))))
      (pss_one (ps_ret (pe_op op_cat (pv 4) (pe_lst (pa_cons (pe_tup (pa_cons (pv 6) (pa_cons (pe_str) (pa_cons (pv 0) (pa_nil))))) (pa_cons (pe_tup (pa_cons (pv 6) (pa_cons (pe_str) (pa_cons (pv 1) (pa_nil))))) (pa_cons (pe_tup (pa_cons (pv 7) (pa_cons (pe_str) (pa_cons (pv 1) (pa_nil))))) (pa_cons (pe_tup (pa_cons (pv 7) (pa_cons (pe_str) (pa_cons (pv 0) (pa_nil))))) (pa_nil)))))))))))))))))))))), ?_⟩
    refine cut_seq (fun σ' H' => ∃ (m : Addr) (ts : List Addr) (w3 : Option V), σ' = [some v, some u, some (.ref m), w3, none, none, none, none] ∧ (∀ b o, H b = some o → H' b = some o) ∧ H' m = some (.lst (ts.map V.ref)) ∧ Paired (PairAt K H' v) ts []) (fun nx q' => ?_) ?_
    · refine ⟨(by show 0 ≤ sizeLine; decide), fun m0 hm0 => ?_⟩
      exact q' _ _ ⟨m0, [], _, rfl, fun b o e => (upd_ne (ne_of_none e hm0)).trans e, upd_same, .nil⟩
    rintro σ H0 ⟨m0, ts0, w3, rfl, k0, e0, pr0⟩
    -- found
    refine cut_seq (fun σ' H' => ∃ (m : Addr) (ts : List Addr) (w3 : Option V), σ' = [some v, some u, some (.ref m), w3, none, none, none, none] ∧ (∀ b o, H b = some o → H' b = some o) ∧ H' m = some (.lst (ts.map V.ref)) ∧ Paired (PairAt K H' v) ts [("NoNumber", "found"), ("NoName", "found"), ("NoValue", "found"), ("NoFrame", "found")]) (fun nx q' => ?_) ?_
    · refine ⟨_, rfl, _, rfl, rfl, (by show 1 ≤ 10; decide), fun a0 G0 na0 kg0 bg0 x0 => ?_⟩
      have x0 : Xv G0 a0 (He.ga K "NoNumber") [("found", v)] := x0
      refine ⟨_, rfl, rfl, (by show 1 ≤ 10; decide), fun a1 G1 na1 kg1 bg1 x1 => ?_⟩
      have x1 : Xv G1 a1 (He.ga K "NoName") [("found", v)] := x1
      have x0 := x0.kp kg1
      refine ⟨_, rfl, rfl, (by show 1 ≤ 10; decide), fun a2 G2 na2 kg2 bg2 x2 => ?_⟩
      have x2 : Xv G2 a2 (He.ga K "NoValue") [("found", v)] := x2
      have x0 := x0.kp kg2
      have x1 := x1.kp kg2
      refine ⟨_, rfl, rfl, (by show 1 ≤ 10; decide), fun a3 G3 na3 kg3 bg3 x3 => ?_⟩
      have x3 : Xv G3 a3 (He.ga K "NoFrame") [("found", v)] := x3
      have x0 := x0.kp kg3
      have x1 := x1.kp kg3
      have x2 := x2.kp kg3
      have c0 : ∀ b o, H0 b = some o → G3 b = some o := fun b o e => kg3 _ _ (kg2 _ _ (kg1 _ _ (kg0 _ _ (e))))
      have al0 : Paired (fun (a : Addr) (p : Str × Str) => p.2 = ("found" : Str) ∧ Xv G3 a (He.ga K p.1) [(p.2, v)]) [a0, a1, a2, a3] ([("NoNumber", "found"), ("NoName", "found"), ("NoValue", "found"), ("NoFrame", "found")] : List (Str × Str)) := .cons ⟨rfl, x0⟩ (.cons ⟨rfl, x1⟩ (.cons ⟨rfl, x2⟩ (.cons ⟨rfl, x3⟩ (.nil))))
      have c4 : ([("NoNumber", "found"), ("NoName", "found"), ("NoValue", "found"), ("NoFrame", "found")] : List (Str × Str)).length ≤ 4 := by decide
      refine ⟨(by show 4 ≤ sizeLine; decide), fun l hl => ?_⟩
      have el : upd G3 l (.lst [V.ref a0, V.ref a1, V.ref a2, V.ref a3]) l = some (.lst ([a0, a1, a2, a3].map V.ref)) := upd_same
      have kl : ∀ b o, G3 b = some o → upd G3 l (.lst [V.ref a0, V.ref a1, V.ref a2, V.ref a3]) b = some o := fun b o e => (upd_ne (ne_of_none e hl)).trans e
      have al := paired_map al0 fun a p h => (⟨h.1, h.2.kp kl⟩ : p.2 = ("found" : Str) ∧ Xv (upd G3 l (.lst [V.ref a0, V.ref a1, V.ref a2, V.ref a3])) a (He.ga K p.1) [(p.2, v)])
      clear al0
      have k1 : ∀ b o, H0 b = some o → upd G3 l (.lst [V.ref a0, V.ref a1, V.ref a2, V.ref a3]) b = some o := fun b o e => kl _ _ (c0 _ _ e)
      generalize upd G3 l (.lst [V.ref a0, V.ref a1, V.ref a2, V.ref a3]) = L at *
      generalize hA : [a0, a1, a2, a3] = als at al el
      generalize hC : ([("NoNumber", "found"), ("NoName", "found"), ("NoValue", "found"), ("NoFrame", "found")] : List (Str × Str)) = cl at al c4
      refine ⟨l, rfl, ⟨_, SqL.of el⟩, fun D hD => ?_⟩
      have lal := Paired.length al
      refine lc_list (K := K) (a := l) (xs := als.map V.ref) (fun i H' => (∀ b o, L b = some o → H' b = some o) ∧ ∃ ts : List Addr, H' D = some (.lst (ts.map V.ref)) ∧ Paired (PairAt K H' v) ts (cl.take i)) ⟨fun b o e => (upd_ne (ne_of_none e hD)).trans e, [], upd_same, by rw [List.take_zero]; exact .nil⟩ (fun i H' _ z => SqL.of (z.1 _ _ el)) ?_ ?_
      · rintro i y H1 hy ⟨ki, ts, et, pr⟩
        rw [List.getElem?_map] at hy
        obtain ⟨a, ha, rfl⟩ := Option.map_eq_some_iff.mp hy
        obtain ⟨cf, hcf, hf, hx⟩ := paired_get al ha
        have hil := (List.getElem?_eq_some_iff.mp hcf).1
        refine ⟨rfl, _, rfl, (by show 2 ≤ sizeLine; decide), fun p hp => ?_⟩
        rw [← hf]
        exact pair_more hD et pr hp ha hcf hx ki c4
      rintro J ⟨kj, tn, et, pn⟩
      rw [List.length_map, lal, List.take_length, ← hC] at pn
      have kk : ∀ b o, H0 b = some o → J b = some o := fun b o e => kj _ _ (k1 _ _ e)
      have lt := Paired.length pr0
      have ln := Paired.length pn
      refine ⟨m0, D, ts0.map V.ref, tn.map V.ref, rfl, rfl, kk _ _ e0, et, (by rw [List.length_map, List.length_map, lt, ln]; decide), fun m hm => ?_⟩
      rw [← List.map_append]
      have km : ∀ b o, J b = some o → upd J m (.lst ((ts0 ++ tn).map V.ref)) b = some o := fun b o e => (upd_ne (ne_of_none e hm)).trans e
      exact q' _ _ ⟨m, ts0 ++ tn, _, rfl, fun b o e => km _ _ (kk _ _ (k0 _ _ e)), upd_same, paired_app (paired_map pr0 fun t q h => h.kp fun b o e => km _ _ (kk _ _ e)) (paired_map pn fun t q h => h.kp km)⟩
    clear k0 e0 pr0
    rintro σ H0 ⟨m0, ts0, w3, rfl, k0, e0, pr0⟩
    -- found
    refine cut_seq (fun σ' H' => ∃ (m : Addr) (ts : List Addr) (w3 : Option V), σ' = [some v, some u, some (.ref m), w3, none, none, none, none] ∧ (∀ b o, H b = some o → H' b = some o) ∧ H' m = some (.lst (ts.map V.ref)) ∧ Paired (PairAt K H' v) ts [("NoNumber", "found"), ("NoName", "found"), ("NoValue", "found"), ("NoFrame", "found"), ("NoWay", "found"), ("NoCell", "found"), ("NoHands", "found"), ("NoDeed", "found")]) (fun nx q' => ?_) ?_
    · refine ⟨_, rfl, _, rfl, rfl, (by show 1 ≤ 10; decide), fun a0 G0 na0 kg0 bg0 x0 => ?_⟩
      have x0 : Xv G0 a0 (He.ga K "NoWay") [("found", v)] := x0
      refine ⟨_, rfl, rfl, (by show 1 ≤ 10; decide), fun a1 G1 na1 kg1 bg1 x1 => ?_⟩
      have x1 : Xv G1 a1 (He.ga K "NoCell") [("found", v)] := x1
      have x0 := x0.kp kg1
      refine ⟨_, rfl, rfl, (by show 1 ≤ 10; decide), fun a2 G2 na2 kg2 bg2 x2 => ?_⟩
      have x2 : Xv G2 a2 (He.ga K "NoHands") [("found", v)] := x2
      have x0 := x0.kp kg2
      have x1 := x1.kp kg2
      refine ⟨_, rfl, rfl, (by show 1 ≤ 10; decide), fun a3 G3 na3 kg3 bg3 x3 => ?_⟩
      have x3 : Xv G3 a3 (He.ga K "NoDeed") [("found", v)] := x3
      have x0 := x0.kp kg3
      have x1 := x1.kp kg3
      have x2 := x2.kp kg3
      have c0 : ∀ b o, H0 b = some o → G3 b = some o := fun b o e => kg3 _ _ (kg2 _ _ (kg1 _ _ (kg0 _ _ (e))))
      have al0 : Paired (fun (a : Addr) (p : Str × Str) => p.2 = ("found" : Str) ∧ Xv G3 a (He.ga K p.1) [(p.2, v)]) [a0, a1, a2, a3] ([("NoWay", "found"), ("NoCell", "found"), ("NoHands", "found"), ("NoDeed", "found")] : List (Str × Str)) := .cons ⟨rfl, x0⟩ (.cons ⟨rfl, x1⟩ (.cons ⟨rfl, x2⟩ (.cons ⟨rfl, x3⟩ (.nil))))
      have c4 : ([("NoWay", "found"), ("NoCell", "found"), ("NoHands", "found"), ("NoDeed", "found")] : List (Str × Str)).length ≤ 4 := by decide
      refine ⟨(by show 4 ≤ sizeLine; decide), fun l hl => ?_⟩
      have el : upd G3 l (.lst [V.ref a0, V.ref a1, V.ref a2, V.ref a3]) l = some (.lst ([a0, a1, a2, a3].map V.ref)) := upd_same
      have kl : ∀ b o, G3 b = some o → upd G3 l (.lst [V.ref a0, V.ref a1, V.ref a2, V.ref a3]) b = some o := fun b o e => (upd_ne (ne_of_none e hl)).trans e
      have al := paired_map al0 fun a p h => (⟨h.1, h.2.kp kl⟩ : p.2 = ("found" : Str) ∧ Xv (upd G3 l (.lst [V.ref a0, V.ref a1, V.ref a2, V.ref a3])) a (He.ga K p.1) [(p.2, v)])
      clear al0
      have k1 : ∀ b o, H0 b = some o → upd G3 l (.lst [V.ref a0, V.ref a1, V.ref a2, V.ref a3]) b = some o := fun b o e => kl _ _ (c0 _ _ e)
      generalize upd G3 l (.lst [V.ref a0, V.ref a1, V.ref a2, V.ref a3]) = L at *
      generalize hA : [a0, a1, a2, a3] = als at al el
      generalize hC : ([("NoWay", "found"), ("NoCell", "found"), ("NoHands", "found"), ("NoDeed", "found")] : List (Str × Str)) = cl at al c4
      refine ⟨l, rfl, ⟨_, SqL.of el⟩, fun D hD => ?_⟩
      have lal := Paired.length al
      refine lc_list (K := K) (a := l) (xs := als.map V.ref) (fun i H' => (∀ b o, L b = some o → H' b = some o) ∧ ∃ ts : List Addr, H' D = some (.lst (ts.map V.ref)) ∧ Paired (PairAt K H' v) ts (cl.take i)) ⟨fun b o e => (upd_ne (ne_of_none e hD)).trans e, [], upd_same, by rw [List.take_zero]; exact .nil⟩ (fun i H' _ z => SqL.of (z.1 _ _ el)) ?_ ?_
      · rintro i y H1 hy ⟨ki, ts, et, pr⟩
        rw [List.getElem?_map] at hy
        obtain ⟨a, ha, rfl⟩ := Option.map_eq_some_iff.mp hy
        obtain ⟨cf, hcf, hf, hx⟩ := paired_get al ha
        have hil := (List.getElem?_eq_some_iff.mp hcf).1
        refine ⟨rfl, _, rfl, (by show 2 ≤ sizeLine; decide), fun p hp => ?_⟩
        rw [← hf]
        exact pair_more hD et pr hp ha hcf hx ki c4
      rintro J ⟨kj, tn, et, pn⟩
      rw [List.length_map, lal, List.take_length, ← hC] at pn
      have kk : ∀ b o, H0 b = some o → J b = some o := fun b o e => kj _ _ (k1 _ _ e)
      have lt := Paired.length pr0
      have ln := Paired.length pn
      refine ⟨m0, D, ts0.map V.ref, tn.map V.ref, rfl, rfl, kk _ _ e0, et, (by rw [List.length_map, List.length_map, lt, ln]; decide), fun m hm => ?_⟩
      rw [← List.map_append]
      have km : ∀ b o, J b = some o → upd J m (.lst ((ts0 ++ tn).map V.ref)) b = some o := fun b o e => (upd_ne (ne_of_none e hm)).trans e
      exact q' _ _ ⟨m, ts0 ++ tn, _, rfl, fun b o e => km _ _ (kk _ _ (k0 _ _ e)), upd_same, paired_app (paired_map pr0 fun t q h => h.kp fun b o e => km _ _ (kk _ _ e)) (paired_map pn fun t q h => h.kp km)⟩
    clear k0 e0 pr0
    rintro σ H0 ⟨m0, ts0, w3, rfl, k0, e0, pr0⟩
    -- found
    refine cut_seq (fun σ' H' => ∃ (m : Addr) (ts : List Addr) (w3 : Option V), σ' = [some v, some u, some (.ref m), w3, none, none, none, none] ∧ (∀ b o, H b = some o → H' b = some o) ∧ H' m = some (.lst (ts.map V.ref)) ∧ Paired (PairAt K H' v) ts [("NoNumber", "found"), ("NoName", "found"), ("NoValue", "found"), ("NoFrame", "found"), ("NoWay", "found"), ("NoCell", "found"), ("NoHands", "found"), ("NoDeed", "found"), ("NoChoices", "found"), ("NoMaking", "found"), ("NoManner", "found"), ("NoNames", "found")]) (fun nx q' => ?_) ?_
    · refine ⟨_, rfl, _, rfl, rfl, (by show 1 ≤ 10; decide), fun a0 G0 na0 kg0 bg0 x0 => ?_⟩
      have x0 : Xv G0 a0 (He.ga K "NoChoices") [("found", v)] := x0
      refine ⟨_, rfl, rfl, (by show 1 ≤ 10; decide), fun a1 G1 na1 kg1 bg1 x1 => ?_⟩
      have x1 : Xv G1 a1 (He.ga K "NoMaking") [("found", v)] := x1
      have x0 := x0.kp kg1
      refine ⟨_, rfl, rfl, (by show 1 ≤ 10; decide), fun a2 G2 na2 kg2 bg2 x2 => ?_⟩
      have x2 : Xv G2 a2 (He.ga K "NoManner") [("found", v)] := x2
      have x0 := x0.kp kg2
      have x1 := x1.kp kg2
      refine ⟨_, rfl, rfl, (by show 1 ≤ 10; decide), fun a3 G3 na3 kg3 bg3 x3 => ?_⟩
      have x3 : Xv G3 a3 (He.ga K "NoNames") [("found", v)] := x3
      have x0 := x0.kp kg3
      have x1 := x1.kp kg3
      have x2 := x2.kp kg3
      have c0 : ∀ b o, H0 b = some o → G3 b = some o := fun b o e => kg3 _ _ (kg2 _ _ (kg1 _ _ (kg0 _ _ (e))))
      have al0 : Paired (fun (a : Addr) (p : Str × Str) => p.2 = ("found" : Str) ∧ Xv G3 a (He.ga K p.1) [(p.2, v)]) [a0, a1, a2, a3] ([("NoChoices", "found"), ("NoMaking", "found"), ("NoManner", "found"), ("NoNames", "found")] : List (Str × Str)) := .cons ⟨rfl, x0⟩ (.cons ⟨rfl, x1⟩ (.cons ⟨rfl, x2⟩ (.cons ⟨rfl, x3⟩ (.nil))))
      have c4 : ([("NoChoices", "found"), ("NoMaking", "found"), ("NoManner", "found"), ("NoNames", "found")] : List (Str × Str)).length ≤ 4 := by decide
      refine ⟨(by show 4 ≤ sizeLine; decide), fun l hl => ?_⟩
      have el : upd G3 l (.lst [V.ref a0, V.ref a1, V.ref a2, V.ref a3]) l = some (.lst ([a0, a1, a2, a3].map V.ref)) := upd_same
      have kl : ∀ b o, G3 b = some o → upd G3 l (.lst [V.ref a0, V.ref a1, V.ref a2, V.ref a3]) b = some o := fun b o e => (upd_ne (ne_of_none e hl)).trans e
      have al := paired_map al0 fun a p h => (⟨h.1, h.2.kp kl⟩ : p.2 = ("found" : Str) ∧ Xv (upd G3 l (.lst [V.ref a0, V.ref a1, V.ref a2, V.ref a3])) a (He.ga K p.1) [(p.2, v)])
      clear al0
      have k1 : ∀ b o, H0 b = some o → upd G3 l (.lst [V.ref a0, V.ref a1, V.ref a2, V.ref a3]) b = some o := fun b o e => kl _ _ (c0 _ _ e)
      generalize upd G3 l (.lst [V.ref a0, V.ref a1, V.ref a2, V.ref a3]) = L at *
      generalize hA : [a0, a1, a2, a3] = als at al el
      generalize hC : ([("NoChoices", "found"), ("NoMaking", "found"), ("NoManner", "found"), ("NoNames", "found")] : List (Str × Str)) = cl at al c4
      refine ⟨l, rfl, ⟨_, SqL.of el⟩, fun D hD => ?_⟩
      have lal := Paired.length al
      refine lc_list (K := K) (a := l) (xs := als.map V.ref) (fun i H' => (∀ b o, L b = some o → H' b = some o) ∧ ∃ ts : List Addr, H' D = some (.lst (ts.map V.ref)) ∧ Paired (PairAt K H' v) ts (cl.take i)) ⟨fun b o e => (upd_ne (ne_of_none e hD)).trans e, [], upd_same, by rw [List.take_zero]; exact .nil⟩ (fun i H' _ z => SqL.of (z.1 _ _ el)) ?_ ?_
      · rintro i y H1 hy ⟨ki, ts, et, pr⟩
        rw [List.getElem?_map] at hy
        obtain ⟨a, ha, rfl⟩ := Option.map_eq_some_iff.mp hy
        obtain ⟨cf, hcf, hf, hx⟩ := paired_get al ha
        have hil := (List.getElem?_eq_some_iff.mp hcf).1
        refine ⟨rfl, _, rfl, (by show 2 ≤ sizeLine; decide), fun p hp => ?_⟩
        rw [← hf]
        exact pair_more hD et pr hp ha hcf hx ki c4
      rintro J ⟨kj, tn, et, pn⟩
      rw [List.length_map, lal, List.take_length, ← hC] at pn
      have kk : ∀ b o, H0 b = some o → J b = some o := fun b o e => kj _ _ (k1 _ _ e)
      have lt := Paired.length pr0
      have ln := Paired.length pn
      refine ⟨m0, D, ts0.map V.ref, tn.map V.ref, rfl, rfl, kk _ _ e0, et, (by rw [List.length_map, List.length_map, lt, ln]; decide), fun m hm => ?_⟩
      rw [← List.map_append]
      have km : ∀ b o, J b = some o → upd J m (.lst ((ts0 ++ tn).map V.ref)) b = some o := fun b o e => (upd_ne (ne_of_none e hm)).trans e
      exact q' _ _ ⟨m, ts0 ++ tn, _, rfl, fun b o e => km _ _ (kk _ _ (k0 _ _ e)), upd_same, paired_app (paired_map pr0 fun t q h => h.kp fun b o e => km _ _ (kk _ _ e)) (paired_map pn fun t q h => h.kp km)⟩
    clear k0 e0 pr0
    rintro σ H0 ⟨m0, ts0, w3, rfl, k0, e0, pr0⟩
    -- found
    refine cut_seq (fun σ' H' => ∃ (m : Addr) (ts : List Addr) (w3 : Option V), σ' = [some v, some u, some (.ref m), w3, none, none, none, none] ∧ (∀ b o, H b = some o → H' b = some o) ∧ H' m = some (.lst (ts.map V.ref)) ∧ Paired (PairAt K H' v) ts [("NoNumber", "found"), ("NoName", "found"), ("NoValue", "found"), ("NoFrame", "found"), ("NoWay", "found"), ("NoCell", "found"), ("NoHands", "found"), ("NoDeed", "found"), ("NoChoices", "found"), ("NoMaking", "found"), ("NoManner", "found"), ("NoNames", "found"), ("NoLine", "found")]) (fun nx q' => ?_) ?_
    · refine ⟨_, rfl, _, rfl, rfl, (by show 1 ≤ 10; decide), fun a0 G0 na0 kg0 bg0 x0 => ?_⟩
      have x0 : Xv G0 a0 (He.ga K "NoLine") [("found", v)] := x0
      have c0 : ∀ b o, H0 b = some o → G0 b = some o := fun b o e => kg0 _ _ (e)
      have al0 : Paired (fun (a : Addr) (p : Str × Str) => p.2 = ("found" : Str) ∧ Xv G0 a (He.ga K p.1) [(p.2, v)]) [a0] ([("NoLine", "found")] : List (Str × Str)) := .cons ⟨rfl, x0⟩ (.nil)
      have c4 : ([("NoLine", "found")] : List (Str × Str)).length ≤ 4 := by decide
      refine ⟨(by show 1 ≤ sizeLine; decide), fun l hl => ?_⟩
      have el : upd G0 l (.lst [V.ref a0]) l = some (.lst ([a0].map V.ref)) := upd_same
      have kl : ∀ b o, G0 b = some o → upd G0 l (.lst [V.ref a0]) b = some o := fun b o e => (upd_ne (ne_of_none e hl)).trans e
      have al := paired_map al0 fun a p h => (⟨h.1, h.2.kp kl⟩ : p.2 = ("found" : Str) ∧ Xv (upd G0 l (.lst [V.ref a0])) a (He.ga K p.1) [(p.2, v)])
      clear al0
      have k1 : ∀ b o, H0 b = some o → upd G0 l (.lst [V.ref a0]) b = some o := fun b o e => kl _ _ (c0 _ _ e)
      generalize upd G0 l (.lst [V.ref a0]) = L at *
      generalize hA : [a0] = als at al el
      generalize hC : ([("NoLine", "found")] : List (Str × Str)) = cl at al c4
      refine ⟨l, rfl, ⟨_, SqL.of el⟩, fun D hD => ?_⟩
      have lal := Paired.length al
      refine lc_list (K := K) (a := l) (xs := als.map V.ref) (fun i H' => (∀ b o, L b = some o → H' b = some o) ∧ ∃ ts : List Addr, H' D = some (.lst (ts.map V.ref)) ∧ Paired (PairAt K H' v) ts (cl.take i)) ⟨fun b o e => (upd_ne (ne_of_none e hD)).trans e, [], upd_same, by rw [List.take_zero]; exact .nil⟩ (fun i H' _ z => SqL.of (z.1 _ _ el)) ?_ ?_
      · rintro i y H1 hy ⟨ki, ts, et, pr⟩
        rw [List.getElem?_map] at hy
        obtain ⟨a, ha, rfl⟩ := Option.map_eq_some_iff.mp hy
        obtain ⟨cf, hcf, hf, hx⟩ := paired_get al ha
        have hil := (List.getElem?_eq_some_iff.mp hcf).1
        refine ⟨rfl, _, rfl, (by show 2 ≤ sizeLine; decide), fun p hp => ?_⟩
        rw [← hf]
        exact pair_more hD et pr hp ha hcf hx ki c4
      rintro J ⟨kj, tn, et, pn⟩
      rw [List.length_map, lal, List.take_length, ← hC] at pn
      have kk : ∀ b o, H0 b = some o → J b = some o := fun b o e => kj _ _ (k1 _ _ e)
      have lt := Paired.length pr0
      have ln := Paired.length pn
      refine ⟨m0, D, ts0.map V.ref, tn.map V.ref, rfl, rfl, kk _ _ e0, et, (by rw [List.length_map, List.length_map, lt, ln]; decide), fun m hm => ?_⟩
      rw [← List.map_append]
      have km : ∀ b o, J b = some o → upd J m (.lst ((ts0 ++ tn).map V.ref)) b = some o := fun b o e => (upd_ne (ne_of_none e hm)).trans e
      exact q' _ _ ⟨m, ts0 ++ tn, _, rfl, fun b o e => km _ _ (kk _ _ (k0 _ _ e)), upd_same, paired_app (paired_map pr0 fun t q h => h.kp fun b o e => km _ _ (kk _ _ e)) (paired_map pn fun t q h => h.kp km)⟩
    clear k0 e0 pr0
    rintro σ H0 ⟨m0, ts0, w3, rfl, k0, e0, pr0⟩
    -- many
    refine cut_seq (fun σ' H' => ∃ (m : Addr) (ts : List Addr) (w3 : Option V), σ' = [some v, some u, some (.ref m), w3, none, none, none, none] ∧ (∀ b o, H b = some o → H' b = some o) ∧ H' m = some (.lst (ts.map V.ref)) ∧ Paired (PairAt K H' v) ts [("NoNumber", "found"), ("NoName", "found"), ("NoValue", "found"), ("NoFrame", "found"), ("NoWay", "found"), ("NoCell", "found"), ("NoHands", "found"), ("NoDeed", "found"), ("NoChoices", "found"), ("NoMaking", "found"), ("NoManner", "found"), ("NoNames", "found"), ("NoLine", "found"), ("TooMany", "many"), ("TooWide", "many"), ("TooLong", "many")]) (fun nx q' => ?_) ?_
    · refine ⟨_, rfl, _, rfl, rfl, (by show 1 ≤ 10; decide), fun a0 G0 na0 kg0 bg0 x0 => ?_⟩
      have x0 : Xv G0 a0 (He.ga K "TooMany") [("many", v)] := x0
      refine ⟨_, rfl, rfl, (by show 1 ≤ 10; decide), fun a1 G1 na1 kg1 bg1 x1 => ?_⟩
      have x1 : Xv G1 a1 (He.ga K "TooWide") [("many", v)] := x1
      have x0 := x0.kp kg1
      refine ⟨_, rfl, rfl, (by show 1 ≤ 10; decide), fun a2 G2 na2 kg2 bg2 x2 => ?_⟩
      have x2 : Xv G2 a2 (He.ga K "TooLong") [("many", v)] := x2
      have x0 := x0.kp kg2
      have x1 := x1.kp kg2
      have c0 : ∀ b o, H0 b = some o → G2 b = some o := fun b o e => kg2 _ _ (kg1 _ _ (kg0 _ _ (e)))
      have al0 : Paired (fun (a : Addr) (p : Str × Str) => p.2 = ("many" : Str) ∧ Xv G2 a (He.ga K p.1) [(p.2, v)]) [a0, a1, a2] ([("TooMany", "many"), ("TooWide", "many"), ("TooLong", "many")] : List (Str × Str)) := .cons ⟨rfl, x0⟩ (.cons ⟨rfl, x1⟩ (.cons ⟨rfl, x2⟩ (.nil)))
      have c4 : ([("TooMany", "many"), ("TooWide", "many"), ("TooLong", "many")] : List (Str × Str)).length ≤ 4 := by decide
      refine ⟨(by show 3 ≤ sizeLine; decide), fun l hl => ?_⟩
      have el : upd G2 l (.lst [V.ref a0, V.ref a1, V.ref a2]) l = some (.lst ([a0, a1, a2].map V.ref)) := upd_same
      have kl : ∀ b o, G2 b = some o → upd G2 l (.lst [V.ref a0, V.ref a1, V.ref a2]) b = some o := fun b o e => (upd_ne (ne_of_none e hl)).trans e
      have al := paired_map al0 fun a p h => (⟨h.1, h.2.kp kl⟩ : p.2 = ("many" : Str) ∧ Xv (upd G2 l (.lst [V.ref a0, V.ref a1, V.ref a2])) a (He.ga K p.1) [(p.2, v)])
      clear al0
      have k1 : ∀ b o, H0 b = some o → upd G2 l (.lst [V.ref a0, V.ref a1, V.ref a2]) b = some o := fun b o e => kl _ _ (c0 _ _ e)
      generalize upd G2 l (.lst [V.ref a0, V.ref a1, V.ref a2]) = L at *
      generalize hA : [a0, a1, a2] = als at al el
      generalize hC : ([("TooMany", "many"), ("TooWide", "many"), ("TooLong", "many")] : List (Str × Str)) = cl at al c4
      refine ⟨l, rfl, ⟨_, SqL.of el⟩, fun D hD => ?_⟩
      have lal := Paired.length al
      refine lc_list (K := K) (a := l) (xs := als.map V.ref) (fun i H' => (∀ b o, L b = some o → H' b = some o) ∧ ∃ ts : List Addr, H' D = some (.lst (ts.map V.ref)) ∧ Paired (PairAt K H' v) ts (cl.take i)) ⟨fun b o e => (upd_ne (ne_of_none e hD)).trans e, [], upd_same, by rw [List.take_zero]; exact .nil⟩ (fun i H' _ z => SqL.of (z.1 _ _ el)) ?_ ?_
      · rintro i y H1 hy ⟨ki, ts, et, pr⟩
        rw [List.getElem?_map] at hy
        obtain ⟨a, ha, rfl⟩ := Option.map_eq_some_iff.mp hy
        obtain ⟨cf, hcf, hf, hx⟩ := paired_get al ha
        have hil := (List.getElem?_eq_some_iff.mp hcf).1
        refine ⟨rfl, _, rfl, (by show 2 ≤ sizeLine; decide), fun p hp => ?_⟩
        rw [← hf]
        exact pair_more hD et pr hp ha hcf hx ki c4
      rintro J ⟨kj, tn, et, pn⟩
      rw [List.length_map, lal, List.take_length, ← hC] at pn
      have kk : ∀ b o, H0 b = some o → J b = some o := fun b o e => kj _ _ (k1 _ _ e)
      have lt := Paired.length pr0
      have ln := Paired.length pn
      refine ⟨m0, D, ts0.map V.ref, tn.map V.ref, rfl, rfl, kk _ _ e0, et, (by rw [List.length_map, List.length_map, lt, ln]; decide), fun m hm => ?_⟩
      rw [← List.map_append]
      have km : ∀ b o, J b = some o → upd J m (.lst ((ts0 ++ tn).map V.ref)) b = some o := fun b o e => (upd_ne (ne_of_none e hm)).trans e
      exact q' _ _ ⟨m, ts0 ++ tn, _, rfl, fun b o e => km _ _ (kk _ _ (k0 _ _ e)), upd_same, paired_app (paired_map pr0 fun t q h => h.kp fun b o e => km _ _ (kk _ _ e)) (paired_map pn fun t q h => h.kp km)⟩
    clear k0 e0 pr0
    rintro σ H0 ⟨m0, ts0, w3, rfl, k0, e0, pr0⟩
    -- ways
    refine cut_seq (fun σ' H' => ∃ (m : Addr) (ts : List Addr) (w3 : Option V), σ' = [some v, some u, some (.ref m), w3, none, none, none, none] ∧ (∀ b o, H b = some o → H' b = some o) ∧ H' m = some (.lst (ts.map V.ref)) ∧ Paired (PairAt K H' v) ts [("NoNumber", "found"), ("NoName", "found"), ("NoValue", "found"), ("NoFrame", "found"), ("NoWay", "found"), ("NoCell", "found"), ("NoHands", "found"), ("NoDeed", "found"), ("NoChoices", "found"), ("NoMaking", "found"), ("NoManner", "found"), ("NoNames", "found"), ("NoLine", "found"), ("TooMany", "many"), ("TooWide", "many"), ("TooLong", "many"), ("Kept", "ways")]) (fun nx q' => ?_) ?_
    · refine ⟨_, rfl, _, rfl, rfl, (by show 1 ≤ 10; decide), fun a0 G0 na0 kg0 bg0 x0 => ?_⟩
      have x0 : Xv G0 a0 (He.ga K "Kept") [("ways", v)] := x0
      have c0 : ∀ b o, H0 b = some o → G0 b = some o := fun b o e => kg0 _ _ (e)
      have al0 : Paired (fun (a : Addr) (p : Str × Str) => p.2 = ("ways" : Str) ∧ Xv G0 a (He.ga K p.1) [(p.2, v)]) [a0] ([("Kept", "ways")] : List (Str × Str)) := .cons ⟨rfl, x0⟩ (.nil)
      have c4 : ([("Kept", "ways")] : List (Str × Str)).length ≤ 4 := by decide
      refine ⟨(by show 1 ≤ sizeLine; decide), fun l hl => ?_⟩
      have el : upd G0 l (.lst [V.ref a0]) l = some (.lst ([a0].map V.ref)) := upd_same
      have kl : ∀ b o, G0 b = some o → upd G0 l (.lst [V.ref a0]) b = some o := fun b o e => (upd_ne (ne_of_none e hl)).trans e
      have al := paired_map al0 fun a p h => (⟨h.1, h.2.kp kl⟩ : p.2 = ("ways" : Str) ∧ Xv (upd G0 l (.lst [V.ref a0])) a (He.ga K p.1) [(p.2, v)])
      clear al0
      have k1 : ∀ b o, H0 b = some o → upd G0 l (.lst [V.ref a0]) b = some o := fun b o e => kl _ _ (c0 _ _ e)
      generalize upd G0 l (.lst [V.ref a0]) = L at *
      generalize hA : [a0] = als at al el
      generalize hC : ([("Kept", "ways")] : List (Str × Str)) = cl at al c4
      refine ⟨l, rfl, ⟨_, SqL.of el⟩, fun D hD => ?_⟩
      have lal := Paired.length al
      refine lc_list (K := K) (a := l) (xs := als.map V.ref) (fun i H' => (∀ b o, L b = some o → H' b = some o) ∧ ∃ ts : List Addr, H' D = some (.lst (ts.map V.ref)) ∧ Paired (PairAt K H' v) ts (cl.take i)) ⟨fun b o e => (upd_ne (ne_of_none e hD)).trans e, [], upd_same, by rw [List.take_zero]; exact .nil⟩ (fun i H' _ z => SqL.of (z.1 _ _ el)) ?_ ?_
      · rintro i y H1 hy ⟨ki, ts, et, pr⟩
        rw [List.getElem?_map] at hy
        obtain ⟨a, ha, rfl⟩ := Option.map_eq_some_iff.mp hy
        obtain ⟨cf, hcf, hf, hx⟩ := paired_get al ha
        have hil := (List.getElem?_eq_some_iff.mp hcf).1
        refine ⟨rfl, _, rfl, (by show 2 ≤ sizeLine; decide), fun p hp => ?_⟩
        rw [← hf]
        exact pair_more hD et pr hp ha hcf hx ki c4
      rintro J ⟨kj, tn, et, pn⟩
      rw [List.length_map, lal, List.take_length, ← hC] at pn
      have kk : ∀ b o, H0 b = some o → J b = some o := fun b o e => kj _ _ (k1 _ _ e)
      have lt := Paired.length pr0
      have ln := Paired.length pn
      refine ⟨m0, D, ts0.map V.ref, tn.map V.ref, rfl, rfl, kk _ _ e0, et, (by rw [List.length_map, List.length_map, lt, ln]; decide), fun m hm => ?_⟩
      rw [← List.map_append]
      have km : ∀ b o, J b = some o → upd J m (.lst ((ts0 ++ tn).map V.ref)) b = some o := fun b o e => (upd_ne (ne_of_none e hm)).trans e
      exact q' _ _ ⟨m, ts0 ++ tn, _, rfl, fun b o e => km _ _ (kk _ _ (k0 _ _ e)), upd_same, paired_app (paired_map pr0 fun t q h => h.kp fun b o e => km _ _ (kk _ _ e)) (paired_map pn fun t q h => h.kp km)⟩
    clear k0 e0 pr0
    rintro σ H0 ⟨m0, ts0, w3, rfl, k0, e0, pr0⟩
    -- depth
    refine cut_seq (fun σ' H' => ∃ (m : Addr) (ts : List Addr) (w3 : Option V), σ' = [some v, some u, some (.ref m), w3, none, none, none, none] ∧ (∀ b o, H b = some o → H' b = some o) ∧ H' m = some (.lst (ts.map V.ref)) ∧ Paired (PairAt K H' v) ts [("NoNumber", "found"), ("NoName", "found"), ("NoValue", "found"), ("NoFrame", "found"), ("NoWay", "found"), ("NoCell", "found"), ("NoHands", "found"), ("NoDeed", "found"), ("NoChoices", "found"), ("NoMaking", "found"), ("NoManner", "found"), ("NoNames", "found"), ("NoLine", "found"), ("TooMany", "many"), ("TooWide", "many"), ("TooLong", "many"), ("Kept", "ways"), ("TooDeep", "depth")]) (fun nx q' => ?_) ?_
    · refine ⟨_, rfl, _, rfl, rfl, (by show 1 ≤ 10; decide), fun a0 G0 na0 kg0 bg0 x0 => ?_⟩
      have x0 : Xv G0 a0 (He.ga K "TooDeep") [("depth", v)] := x0
      have c0 : ∀ b o, H0 b = some o → G0 b = some o := fun b o e => kg0 _ _ (e)
      have al0 : Paired (fun (a : Addr) (p : Str × Str) => p.2 = ("depth" : Str) ∧ Xv G0 a (He.ga K p.1) [(p.2, v)]) [a0] ([("TooDeep", "depth")] : List (Str × Str)) := .cons ⟨rfl, x0⟩ (.nil)
      have c4 : ([("TooDeep", "depth")] : List (Str × Str)).length ≤ 4 := by decide
      refine ⟨(by show 1 ≤ sizeLine; decide), fun l hl => ?_⟩
      have el : upd G0 l (.lst [V.ref a0]) l = some (.lst ([a0].map V.ref)) := upd_same
      have kl : ∀ b o, G0 b = some o → upd G0 l (.lst [V.ref a0]) b = some o := fun b o e => (upd_ne (ne_of_none e hl)).trans e
      have al := paired_map al0 fun a p h => (⟨h.1, h.2.kp kl⟩ : p.2 = ("depth" : Str) ∧ Xv (upd G0 l (.lst [V.ref a0])) a (He.ga K p.1) [(p.2, v)])
      clear al0
      have k1 : ∀ b o, H0 b = some o → upd G0 l (.lst [V.ref a0]) b = some o := fun b o e => kl _ _ (c0 _ _ e)
      generalize upd G0 l (.lst [V.ref a0]) = L at *
      generalize hA : [a0] = als at al el
      generalize hC : ([("TooDeep", "depth")] : List (Str × Str)) = cl at al c4
      refine ⟨l, rfl, ⟨_, SqL.of el⟩, fun D hD => ?_⟩
      have lal := Paired.length al
      refine lc_list (K := K) (a := l) (xs := als.map V.ref) (fun i H' => (∀ b o, L b = some o → H' b = some o) ∧ ∃ ts : List Addr, H' D = some (.lst (ts.map V.ref)) ∧ Paired (PairAt K H' v) ts (cl.take i)) ⟨fun b o e => (upd_ne (ne_of_none e hD)).trans e, [], upd_same, by rw [List.take_zero]; exact .nil⟩ (fun i H' _ z => SqL.of (z.1 _ _ el)) ?_ ?_
      · rintro i y H1 hy ⟨ki, ts, et, pr⟩
        rw [List.getElem?_map] at hy
        obtain ⟨a, ha, rfl⟩ := Option.map_eq_some_iff.mp hy
        obtain ⟨cf, hcf, hf, hx⟩ := paired_get al ha
        have hil := (List.getElem?_eq_some_iff.mp hcf).1
        refine ⟨rfl, _, rfl, (by show 2 ≤ sizeLine; decide), fun p hp => ?_⟩
        rw [← hf]
        exact pair_more hD et pr hp ha hcf hx ki c4
      rintro J ⟨kj, tn, et, pn⟩
      rw [List.length_map, lal, List.take_length, ← hC] at pn
      have kk : ∀ b o, H0 b = some o → J b = some o := fun b o e => kj _ _ (k1 _ _ e)
      have lt := Paired.length pr0
      have ln := Paired.length pn
      refine ⟨m0, D, ts0.map V.ref, tn.map V.ref, rfl, rfl, kk _ _ e0, et, (by rw [List.length_map, List.length_map, lt, ln]; decide), fun m hm => ?_⟩
      rw [← List.map_append]
      have km : ∀ b o, J b = some o → upd J m (.lst ((ts0 ++ tn).map V.ref)) b = some o := fun b o e => (upd_ne (ne_of_none e hm)).trans e
      exact q' _ _ ⟨m, ts0 ++ tn, _, rfl, fun b o e => km _ _ (kk _ _ (k0 _ _ e)), upd_same, paired_app (paired_map pr0 fun t q h => h.kp fun b o e => km _ _ (kk _ _ e)) (paired_map pn fun t q h => h.kp km)⟩
    clear k0 e0 pr0
    rintro σ H0 ⟨m0, ts0, w3, rfl, k0, e0, pr0⟩
    -- label
    refine cut_seq (fun σ' H' => ∃ (m : Addr) (ts : List Addr) (w3 : Option V), σ' = [some v, some u, some (.ref m), w3, none, none, none, none] ∧ (∀ b o, H b = some o → H' b = some o) ∧ H' m = some (.lst (ts.map V.ref)) ∧ Paired (PairAt K H' v) ts [("NoNumber", "found"), ("NoName", "found"), ("NoValue", "found"), ("NoFrame", "found"), ("NoWay", "found"), ("NoCell", "found"), ("NoHands", "found"), ("NoDeed", "found"), ("NoChoices", "found"), ("NoMaking", "found"), ("NoManner", "found"), ("NoNames", "found"), ("NoLine", "found"), ("TooMany", "many"), ("TooWide", "many"), ("TooLong", "many"), ("Kept", "ways"), ("TooDeep", "depth"), ("Twice", "label"), ("NoLabel", "label")]) (fun nx q' => ?_) ?_
    · refine ⟨_, rfl, _, rfl, rfl, (by show 1 ≤ 10; decide), fun a0 G0 na0 kg0 bg0 x0 => ?_⟩
      have x0 : Xv G0 a0 (He.ga K "Twice") [("label", v)] := x0
      refine ⟨_, rfl, rfl, (by show 1 ≤ 10; decide), fun a1 G1 na1 kg1 bg1 x1 => ?_⟩
      have x1 : Xv G1 a1 (He.ga K "NoLabel") [("label", v)] := x1
      have x0 := x0.kp kg1
      have c0 : ∀ b o, H0 b = some o → G1 b = some o := fun b o e => kg1 _ _ (kg0 _ _ (e))
      have al0 : Paired (fun (a : Addr) (p : Str × Str) => p.2 = ("label" : Str) ∧ Xv G1 a (He.ga K p.1) [(p.2, v)]) [a0, a1] ([("Twice", "label"), ("NoLabel", "label")] : List (Str × Str)) := .cons ⟨rfl, x0⟩ (.cons ⟨rfl, x1⟩ (.nil))
      have c4 : ([("Twice", "label"), ("NoLabel", "label")] : List (Str × Str)).length ≤ 4 := by decide
      refine ⟨(by show 2 ≤ sizeLine; decide), fun l hl => ?_⟩
      have el : upd G1 l (.lst [V.ref a0, V.ref a1]) l = some (.lst ([a0, a1].map V.ref)) := upd_same
      have kl : ∀ b o, G1 b = some o → upd G1 l (.lst [V.ref a0, V.ref a1]) b = some o := fun b o e => (upd_ne (ne_of_none e hl)).trans e
      have al := paired_map al0 fun a p h => (⟨h.1, h.2.kp kl⟩ : p.2 = ("label" : Str) ∧ Xv (upd G1 l (.lst [V.ref a0, V.ref a1])) a (He.ga K p.1) [(p.2, v)])
      clear al0
      have k1 : ∀ b o, H0 b = some o → upd G1 l (.lst [V.ref a0, V.ref a1]) b = some o := fun b o e => kl _ _ (c0 _ _ e)
      generalize upd G1 l (.lst [V.ref a0, V.ref a1]) = L at *
      generalize hA : [a0, a1] = als at al el
      generalize hC : ([("Twice", "label"), ("NoLabel", "label")] : List (Str × Str)) = cl at al c4
      refine ⟨l, rfl, ⟨_, SqL.of el⟩, fun D hD => ?_⟩
      have lal := Paired.length al
      refine lc_list (K := K) (a := l) (xs := als.map V.ref) (fun i H' => (∀ b o, L b = some o → H' b = some o) ∧ ∃ ts : List Addr, H' D = some (.lst (ts.map V.ref)) ∧ Paired (PairAt K H' v) ts (cl.take i)) ⟨fun b o e => (upd_ne (ne_of_none e hD)).trans e, [], upd_same, by rw [List.take_zero]; exact .nil⟩ (fun i H' _ z => SqL.of (z.1 _ _ el)) ?_ ?_
      · rintro i y H1 hy ⟨ki, ts, et, pr⟩
        rw [List.getElem?_map] at hy
        obtain ⟨a, ha, rfl⟩ := Option.map_eq_some_iff.mp hy
        obtain ⟨cf, hcf, hf, hx⟩ := paired_get al ha
        have hil := (List.getElem?_eq_some_iff.mp hcf).1
        refine ⟨rfl, _, rfl, (by show 2 ≤ sizeLine; decide), fun p hp => ?_⟩
        rw [← hf]
        exact pair_more hD et pr hp ha hcf hx ki c4
      rintro J ⟨kj, tn, et, pn⟩
      rw [List.length_map, lal, List.take_length, ← hC] at pn
      have kk : ∀ b o, H0 b = some o → J b = some o := fun b o e => kj _ _ (k1 _ _ e)
      have lt := Paired.length pr0
      have ln := Paired.length pn
      refine ⟨m0, D, ts0.map V.ref, tn.map V.ref, rfl, rfl, kk _ _ e0, et, (by rw [List.length_map, List.length_map, lt, ln]; decide), fun m hm => ?_⟩
      rw [← List.map_append]
      have km : ∀ b o, J b = some o → upd J m (.lst ((ts0 ++ tn).map V.ref)) b = some o := fun b o e => (upd_ne (ne_of_none e hm)).trans e
      exact q' _ _ ⟨m, ts0 ++ tn, _, rfl, fun b o e => km _ _ (kk _ _ (k0 _ _ e)), upd_same, paired_app (paired_map pr0 fun t q h => h.kp fun b o e => km _ _ (kk _ _ e)) (paired_map pn fun t q h => h.kp km)⟩
    clear k0 e0 pr0
    rintro σ H0 ⟨m0, ts0, w3, rfl, k0, e0, pr0⟩
    -- number
    refine cut_seq (fun σ' H' => ∃ (m : Addr) (ts : List Addr) (w3 : Option V), σ' = [some v, some u, some (.ref m), w3, none, none, none, none] ∧ (∀ b o, H b = some o → H' b = some o) ∧ H' m = some (.lst (ts.map V.ref)) ∧ Paired (PairAt K H' v) ts [("NoNumber", "found"), ("NoName", "found"), ("NoValue", "found"), ("NoFrame", "found"), ("NoWay", "found"), ("NoCell", "found"), ("NoHands", "found"), ("NoDeed", "found"), ("NoChoices", "found"), ("NoMaking", "found"), ("NoManner", "found"), ("NoNames", "found"), ("NoLine", "found"), ("TooMany", "many"), ("TooWide", "many"), ("TooLong", "many"), ("Kept", "ways"), ("TooDeep", "depth"), ("Twice", "label"), ("NoLabel", "label"), ("NotStraight", "number")]) (fun nx q' => ?_) ?_
    · refine ⟨_, rfl, _, rfl, rfl, (by show 1 ≤ 10; decide), fun a0 G0 na0 kg0 bg0 x0 => ?_⟩
      have x0 : Xv G0 a0 (He.ga K "NotStraight") [("number", v)] := x0
      have c0 : ∀ b o, H0 b = some o → G0 b = some o := fun b o e => kg0 _ _ (e)
      have al0 : Paired (fun (a : Addr) (p : Str × Str) => p.2 = ("number" : Str) ∧ Xv G0 a (He.ga K p.1) [(p.2, v)]) [a0] ([("NotStraight", "number")] : List (Str × Str)) := .cons ⟨rfl, x0⟩ (.nil)
      have c4 : ([("NotStraight", "number")] : List (Str × Str)).length ≤ 4 := by decide
      refine ⟨(by show 1 ≤ sizeLine; decide), fun l hl => ?_⟩
      have el : upd G0 l (.lst [V.ref a0]) l = some (.lst ([a0].map V.ref)) := upd_same
      have kl : ∀ b o, G0 b = some o → upd G0 l (.lst [V.ref a0]) b = some o := fun b o e => (upd_ne (ne_of_none e hl)).trans e
      have al := paired_map al0 fun a p h => (⟨h.1, h.2.kp kl⟩ : p.2 = ("number" : Str) ∧ Xv (upd G0 l (.lst [V.ref a0])) a (He.ga K p.1) [(p.2, v)])
      clear al0
      have k1 : ∀ b o, H0 b = some o → upd G0 l (.lst [V.ref a0]) b = some o := fun b o e => kl _ _ (c0 _ _ e)
      generalize upd G0 l (.lst [V.ref a0]) = L at *
      generalize hA : [a0] = als at al el
      generalize hC : ([("NotStraight", "number")] : List (Str × Str)) = cl at al c4
      refine ⟨l, rfl, ⟨_, SqL.of el⟩, fun D hD => ?_⟩
      have lal := Paired.length al
      refine lc_list (K := K) (a := l) (xs := als.map V.ref) (fun i H' => (∀ b o, L b = some o → H' b = some o) ∧ ∃ ts : List Addr, H' D = some (.lst (ts.map V.ref)) ∧ Paired (PairAt K H' v) ts (cl.take i)) ⟨fun b o e => (upd_ne (ne_of_none e hD)).trans e, [], upd_same, by rw [List.take_zero]; exact .nil⟩ (fun i H' _ z => SqL.of (z.1 _ _ el)) ?_ ?_
      · rintro i y H1 hy ⟨ki, ts, et, pr⟩
        rw [List.getElem?_map] at hy
        obtain ⟨a, ha, rfl⟩ := Option.map_eq_some_iff.mp hy
        obtain ⟨cf, hcf, hf, hx⟩ := paired_get al ha
        have hil := (List.getElem?_eq_some_iff.mp hcf).1
        refine ⟨rfl, _, rfl, (by show 2 ≤ sizeLine; decide), fun p hp => ?_⟩
        rw [← hf]
        exact pair_more hD et pr hp ha hcf hx ki c4
      rintro J ⟨kj, tn, et, pn⟩
      rw [List.length_map, lal, List.take_length, ← hC] at pn
      have kk : ∀ b o, H0 b = some o → J b = some o := fun b o e => kj _ _ (k1 _ _ e)
      have lt := Paired.length pr0
      have ln := Paired.length pn
      refine ⟨m0, D, ts0.map V.ref, tn.map V.ref, rfl, rfl, kk _ _ e0, et, (by rw [List.length_map, List.length_map, lt, ln]; decide), fun m hm => ?_⟩
      rw [← List.map_append]
      have km : ∀ b o, J b = some o → upd J m (.lst ((ts0 ++ tn).map V.ref)) b = some o := fun b o e => (upd_ne (ne_of_none e hm)).trans e
      exact q' _ _ ⟨m, ts0 ++ tn, _, rfl, fun b o e => km _ _ (kk _ _ (k0 _ _ e)), upd_same, paired_app (paired_map pr0 fun t q h => h.kp fun b o e => km _ _ (kk _ _ e)) (paired_map pn fun t q h => h.kp km)⟩
    clear k0 e0 pr0
    rintro σ H0 ⟨m0, ts0, w3, rfl, k0, e0, pr0⟩
    -- line
    refine cut_seq (fun σ' H' => ∃ (m : Addr) (ts : List Addr) (w3 : Option V), σ' = [some v, some u, some (.ref m), w3, none, none, none, none] ∧ (∀ b o, H b = some o → H' b = some o) ∧ H' m = some (.lst (ts.map V.ref)) ∧ Paired (PairAt K H' v) ts [("NoNumber", "found"), ("NoName", "found"), ("NoValue", "found"), ("NoFrame", "found"), ("NoWay", "found"), ("NoCell", "found"), ("NoHands", "found"), ("NoDeed", "found"), ("NoChoices", "found"), ("NoMaking", "found"), ("NoManner", "found"), ("NoNames", "found"), ("NoLine", "found"), ("TooMany", "many"), ("TooWide", "many"), ("TooLong", "many"), ("Kept", "ways"), ("TooDeep", "depth"), ("Twice", "label"), ("NoLabel", "label"), ("NotStraight", "number"), ("NoText", "line")]) (fun nx q' => ?_) ?_
    · refine ⟨_, rfl, _, rfl, rfl, (by show 1 ≤ 10; decide), fun a0 G0 na0 kg0 bg0 x0 => ?_⟩
      have x0 : Xv G0 a0 (He.ga K "NoText") [("line", v)] := x0
      have c0 : ∀ b o, H0 b = some o → G0 b = some o := fun b o e => kg0 _ _ (e)
      have al0 : Paired (fun (a : Addr) (p : Str × Str) => p.2 = ("line" : Str) ∧ Xv G0 a (He.ga K p.1) [(p.2, v)]) [a0] ([("NoText", "line")] : List (Str × Str)) := .cons ⟨rfl, x0⟩ (.nil)
      have c4 : ([("NoText", "line")] : List (Str × Str)).length ≤ 4 := by decide
      refine ⟨(by show 1 ≤ sizeLine; decide), fun l hl => ?_⟩
      have el : upd G0 l (.lst [V.ref a0]) l = some (.lst ([a0].map V.ref)) := upd_same
      have kl : ∀ b o, G0 b = some o → upd G0 l (.lst [V.ref a0]) b = some o := fun b o e => (upd_ne (ne_of_none e hl)).trans e
      have al := paired_map al0 fun a p h => (⟨h.1, h.2.kp kl⟩ : p.2 = ("line" : Str) ∧ Xv (upd G0 l (.lst [V.ref a0])) a (He.ga K p.1) [(p.2, v)])
      clear al0
      have k1 : ∀ b o, H0 b = some o → upd G0 l (.lst [V.ref a0]) b = some o := fun b o e => kl _ _ (c0 _ _ e)
      generalize upd G0 l (.lst [V.ref a0]) = L at *
      generalize hA : [a0] = als at al el
      generalize hC : ([("NoText", "line")] : List (Str × Str)) = cl at al c4
      refine ⟨l, rfl, ⟨_, SqL.of el⟩, fun D hD => ?_⟩
      have lal := Paired.length al
      refine lc_list (K := K) (a := l) (xs := als.map V.ref) (fun i H' => (∀ b o, L b = some o → H' b = some o) ∧ ∃ ts : List Addr, H' D = some (.lst (ts.map V.ref)) ∧ Paired (PairAt K H' v) ts (cl.take i)) ⟨fun b o e => (upd_ne (ne_of_none e hD)).trans e, [], upd_same, by rw [List.take_zero]; exact .nil⟩ (fun i H' _ z => SqL.of (z.1 _ _ el)) ?_ ?_
      · rintro i y H1 hy ⟨ki, ts, et, pr⟩
        rw [List.getElem?_map] at hy
        obtain ⟨a, ha, rfl⟩ := Option.map_eq_some_iff.mp hy
        obtain ⟨cf, hcf, hf, hx⟩ := paired_get al ha
        have hil := (List.getElem?_eq_some_iff.mp hcf).1
        refine ⟨rfl, _, rfl, (by show 2 ≤ sizeLine; decide), fun p hp => ?_⟩
        rw [← hf]
        exact pair_more hD et pr hp ha hcf hx ki c4
      rintro J ⟨kj, tn, et, pn⟩
      rw [List.length_map, lal, List.take_length, ← hC] at pn
      have kk : ∀ b o, H0 b = some o → J b = some o := fun b o e => kj _ _ (k1 _ _ e)
      have lt := Paired.length pr0
      have ln := Paired.length pn
      refine ⟨m0, D, ts0.map V.ref, tn.map V.ref, rfl, rfl, kk _ _ e0, et, (by rw [List.length_map, List.length_map, lt, ln]; decide), fun m hm => ?_⟩
      rw [← List.map_append]
      have km : ∀ b o, J b = some o → upd J m (.lst ((ts0 ++ tn).map V.ref)) b = some o := fun b o e => (upd_ne (ne_of_none e hm)).trans e
      exact q' _ _ ⟨m, ts0 ++ tn, _, rfl, fun b o e => km _ _ (kk _ _ (k0 _ _ e)), upd_same, paired_app (paired_map pr0 fun t q h => h.kp fun b o e => km _ _ (kk _ _ e)) (paired_map pn fun t q h => h.kp km)⟩
    clear k0 e0 pr0
    rintro σ H0 ⟨m0, ts0, w3, rfl, k0, e0, pr0⟩
    refine ⟨_, rfl, m0, rfl, ⟨_, SqL.of e0⟩, fun D hD => ?_⟩
    have l22 := Paired.length pr0
    refine lc_list (K := K) (a := m0) (xs := ts0.map V.ref) (fun i H' => (∀ b o, H0 b = some o → H' b = some o) ∧ ∃ ts : List Addr, H' D = some (.lst (ts.map V.ref)) ∧ Paired (EntAt K H' v u) ts ((ENT22.take i).map fun p => (⟨p.1, p.2, false⟩ : En))) ⟨fun b o e => (upd_ne (ne_of_none e hD)).trans e, [], upd_same, by rw [List.take_zero]; exact .nil⟩ (fun i H' _ z => SqL.of (z.1 _ _ e0)) ?_ ?_
    · rintro i y H1 hy ⟨ki, ts, et, pr⟩
      rw [List.getElem?_map] at hy
      obtain ⟨t, ha, rfl⟩ := Option.map_eq_some_iff.mp hy
      obtain ⟨cf, hcf, a, hta, hx⟩ := paired_get pr0 ha
      refine ⟨t, _, rfl, SqT.of (ki _ _ hta), rfl, _, _, rfl, _, _, rfl, rfl, ?_⟩
      refine ⟨rfl, _, rfl, _, rfl, _, rfl, (by show 3 ≤ sizeLine; decide), fun p hp => ?_⟩
      exact ent_more hD et pr hp hcf (fld cf (List.mem_of_getElem? hcf)) hx ki
    · rintro H1 ⟨ki, ts, et, pr⟩
      rw [List.length_map, l22] at pr
      have pr : Paired (EntAt K H1 v u) ts (ENT22.map fun p => (⟨p.1, p.2, false⟩ : En)) := pr
      have lts := Paired.length pr
      walk_at "nx"
      refine ⟨_, rfl, _, rfl, rfl, (by show 2 ≤ 10; decide), fun ag H2 _ k2 _ xg => ?_⟩
      have xg : Xv H2 ag (He.ga K "Gone") [("by", u), ("found", v)] := xg
      have et2 := k2 _ _ et
      have pr2 := paired_map pr fun t e h => h.kp k2
      walk_at "nx"
      refine ⟨_, rfl, _, rfl, rfl, (by show 2 ≤ 10; decide), fun af H3 _ k3 _ xf => ?_⟩
      have xf : Xv H3 af (He.ga K "Full") [("spare", v), ("need", u)] := xf
      have xg := xg.kp k3
      have et3 := k3 _ _ et2
      have pr3 := paired_map pr2 fun t e h => h.kp k3
      have kk3 : ∀ b o, H b = some o → H3 b = some o := fun b o e => k3 _ _ (k2 _ _ (ki _ _ (k0 _ _ e)))
      clear et2 pr2 et pr
      refine ⟨_, rfl, _, rfl, _, rfl, (by show 3 ≤ sizeLine; decide), fun t1 h1 => ?_⟩
      have f1 : upd H3 t1 (.tup [.ref ag, .str "found", v]) t1 = some (.tup [.ref ag, .str "found", v]) := upd_same
      have g1 : ∀ b o, H3 b = some o → upd H3 t1 (.tup [.ref ag, .str "found", v]) b = some o := fun b o e => (upd_ne (ne_of_none e h1)).trans e
      generalize upd H3 t1 (.tup [.ref ag, .str "found", v]) = H4 at *
      refine ⟨_, rfl, _, rfl, (by show 3 ≤ sizeLine; decide), fun t2 h2 => ?_⟩
      have f2 : upd H4 t2 (.tup [.ref ag, .str "by", u]) t2 = some (.tup [.ref ag, .str "by", u]) := upd_same
      have g2 : ∀ b o, H4 b = some o → upd H4 t2 (.tup [.ref ag, .str "by", u]) b = some o := fun b o e => (upd_ne (ne_of_none e h2)).trans e
      generalize upd H4 t2 (.tup [.ref ag, .str "by", u]) = H5 at *
      refine ⟨_, rfl, _, rfl, (by show 3 ≤ sizeLine; decide), fun t3 h3 => ?_⟩
      have f3 : upd H5 t3 (.tup [.ref af, .str "need", u]) t3 = some (.tup [.ref af, .str "need", u]) := upd_same
      have g3 : ∀ b o, H5 b = some o → upd H5 t3 (.tup [.ref af, .str "need", u]) b = some o := fun b o e => (upd_ne (ne_of_none e h3)).trans e
      generalize upd H5 t3 (.tup [.ref af, .str "need", u]) = H6 at *
      refine ⟨_, rfl, _, rfl, (by show 3 ≤ sizeLine; decide), fun t4 h4 => ?_⟩
      have f4 : upd H6 t4 (.tup [.ref af, .str "spare", v]) t4 = some (.tup [.ref af, .str "spare", v]) := upd_same
      have g4 : ∀ b o, H6 b = some o → upd H6 t4 (.tup [.ref af, .str "spare", v]) b = some o := fun b o e => (upd_ne (ne_of_none e h4)).trans e
      generalize upd H6 t4 (.tup [.ref af, .str "spare", v]) = H7 at *
      have g37 : ∀ b o, H3 b = some o → H7 b = some o := fun b o e => g4 _ _ (g3 _ _ (g2 _ _ (g1 _ _ e)))
      have xg7 := xg.kp g37
      have xf7 := xf.kp g37
      have four : Paired (EntAt K H7 v u) [t1, t2, t3, t4] [⟨"Gone", "found", false⟩, ⟨"Gone", "by", true⟩, ⟨"Full", "need", true⟩, ⟨"Full", "spare", false⟩] := by
        refine .cons ⟨ag, ["found", "by"], _, g4 _ _ (g3 _ _ (g2 _ _ f1)), by decide +kernel, by decide +kernel, xg7, rfl⟩ (.cons ⟨ag, ["found", "by"], _, g4 _ _ (g3 _ _ f2), by decide +kernel, by decide +kernel, xg7, rfl⟩ (.cons ⟨af, ["need", "spare"], _, g4 _ _ f3, by decide +kernel, by decide +kernel, xf7, rfl⟩ (.cons ⟨af, ["need", "spare"], _, f4, by decide +kernel, by decide +kernel, xf7, rfl⟩ .nil)))
      refine ⟨(by show 4 ≤ sizeLine; decide), fun l5 h5 => ?_⟩
      have f5 : upd H7 l5 (.lst [.ref t1, .ref t2, .ref t3, .ref t4]) l5 = some (.lst (([t1, t2, t3, t4] : List Addr).map V.ref)) := upd_same
      have g5 : ∀ b o, H7 b = some o → upd H7 l5 (.lst [.ref t1, .ref t2, .ref t3, .ref t4]) b = some o := fun b o e => (upd_ne (ne_of_none e h5)).trans e
      generalize upd H7 l5 (.lst [.ref t1, .ref t2, .ref t3, .ref t4]) = H8 at *
      refine ⟨D, l5, ts.map V.ref, _, rfl, rfl, g5 _ _ (g37 _ _ et3), f5, (by rw [List.length_map, lts, List.length_map, List.length_map]; show 22 + 4 ≤ sizeLine; decide), fun p hp => ?_⟩
      rw [← List.map_append]
      have g8 : ∀ b o, H8 b = some o → upd H8 p (.lst ((ts ++ [t1, t2, t3, t4]).map V.ref)) b = some o := fun b o e => (upd_ne (ne_of_none e hp)).trans e
      refine q p _ (ts ++ [t1, t2, t3, t4]) ?_ (fun b o e _ => g8 _ _ (g5 _ _ (g37 _ _ (kk3 _ _ e)))) upd_same (paired_app (paired_map pr3 fun t e h => h.kp fun b o e => g8 _ _ (g5 _ _ (g37 _ _ e))) (paired_map four fun t e h => h.kp fun b o e => g8 _ _ (g5 _ _ e)))
      cases eh : H p with
      | none => rfl
      | some o => rw [g5 _ _ (g37 _ _ (kk3 _ _ eh))] at hp; cases hp
end

end Lw
namespace Lw
open PySem PySem.Spec L2 FG
open PyProof.Rows hiding St
/-! ### the one above all -/
def PlAt (K : PySem.W.Frag) (H : Hp) (a : Addr) (z : Str) : Prop := ∃ t, H a = some (ExA (He.ga K "RoomError") t a) ∧ H t = some (.tup [.str z])
theorem PlAt.kp {K : PySem.W.Frag} {H H' : Hp} {a : Addr} {z : Str} (h : PlAt K H a z) (k : ∀ b o, H b = some o → H' b = some o) : PlAt K H' a z := by
  obtain ⟨t, e1, e2⟩ := h
  exact ⟨t, k _ _ e1, k _ _ e2⟩
def spPlain : Sp := fun vs H Q _ => ∃ (b : Addr) (n : Int), vs = [.ref b] ∧ BoxAt H b n ∧ n < 100000 ∧ ∀ H', Kp [b] H H' → BoxAt H' b (n + 50) → Q (.bl true) H'
section
variable {P : Program} {w : World} {K : PySem.W.Frag} {mg : Str → Option Value} {base : Heap}
theorem ok_plain (T : Tx K mg) {fd : FuncData} (F : Fun K "_law_plain_right" "_law_plain_right" s__law_plain_right (He.ga K "_law_plain_right") fd) (c__law_text : Cal P w K mg base 2 "_law_text" spText) (c__law_number : Cal P w K mg base 2 "_law_number" (spNumber K)) : FnG P w K mg base 3 (He.ga K "_law_plain_right") fd ["_law_box_here"] spPlain := by
  refine FnG.of F sc__law_plain_right (fun vs H Q E h => ?_) (fun cdv A outer sh H vs Q E hr h => ?_)
  · obtain ⟨b, n, rfl, _⟩ := h; rfl
  · obtain ⟨b, n, rfl, hb, hn, q⟩ := h
    have exR := exc_of T "RoomError" (List.mem_cons_self)
    refine ⟨_, pss_cons (ps_set (i := 1) sc__law_plain_right.nd rfl (by first | exact Or.inl rfl | exact Or.inr rfl) (pe_lst (pa_cons (gc c__law_text (hr.mono (by decide)) takes0 (pa_cons (pv 0) (pa_nil))) (pa_cons (gc c__law_text (hr.mono (by decide)) takes0 (pa_cons (pv 0) (pa_nil))) (pa_cons (pe_str) (pa_nil))))))
      (pss_cons (ps_setLc (i := 2) (own := [("_law_text_here", 3)]) (g := gName 3) (tt := tYes) rfl sc__law_plain_right.nd rfl rfl (sw_true rfl rfl rfl (by decide +kernel)) (kiL K (pv 1)) (blkOk_by (own := [("_law_text_here", 3)]) (N := ["_law_box_here", "_law_texts", "_law_plain", "_law_text_here", "_law_e"]) (sc := defScope s__law_plain_right) (by decide +kernel)) (fun _ _ _ _ _ => pg_name (i := 3) sc__law_plain_right.nd rfl (by first | exact Or.inl rfl | exact Or.inr rfl)) (fun _ _ _ _ _ => by exact pts_nil) (fun _ _ _ _ _ => by exact pe_x1 T.x_RoomError T.g_RoomError (pv 3)))
      (pss_cons (ps_for (passes_of rfl) rfl (pi_zip (by rfl) T.z_zip (pa_cons (pv 2) (pa_cons (pv 1) (pa_nil)))) (kgT K rfl (pgs_cons (pg_name (i := 4) sc__law_plain_right.nd rfl (by first | exact Or.inl rfl | exact Or.inr rfl)) (pgs_cons (pg_name (i := 3) sc__law_plain_right.nd rfl (by first | exact Or.inl rfl | exact Or.inr rfl)) (pgs_nil))))
        (pss_one (ps_if (PW.pt (pw_or (pt_not (pt_val (pe_callB (call_isV K) (by rfl) T.z_isinstance (by decide +kernel) (pa_cons (pv 4) (pa_cons (pe_bltn (v := .ty "ValueError") (by rfl) T.z_ValueError (by decide +kernel) rfl) (pa_nil)))))) (pw_or (pt_cmpR op_ne (gc c__law_number (hr.mono (by decide)) takes0 (pa_cons (pv 4) (pa_nil))) (pe_un un_neg (pe_int)) (by first | exact nomark _ | rfl)) (pw_or1 (pt_cmpR op_ne (pe_callTy (call_strX K hr.u2) (by rfl) T.z_str (by decide +kernel) (pa_cons (pv 4) (pa_nil))) (pv 3) (by first | exact nomark _ | rfl)))))) (pss_one (ps_ret (pe_bl))) (pss_nil))))
      (pss_one (ps_ret (pe_bl))))), ?_⟩
    refine ⟨_, rfl, b, n, rfl, hb, by omega, fun H1 z1 k1 b1 s1 l1 => ⟨_, rfl, b, _, rfl, b1, by omega, fun H2 z2 k2 b2 s2 l2 => ⟨(by show 3 ≤ sizeLine; decide), fun l hl => ?_⟩⟩⟩
    obtain ⟨zs, ezs⟩ : ∃ zs : List Str, zs = [z1, z2, "any"] := ⟨_, rfl⟩
    have lz : zs.length = 3 := by rw [ezs]; rfl
    have el : upd H2 l (.lst [.str z1, .str z2, .str "any"]) l = some (.lst (zs.map V.str)) := by rw [ezs]; exact upd_same
    have j3 := (Kp.refl (S := []) (H := H2)).new (o := .lst [.str z1, .str z2, .str "any"]) hl
    have b3 := b2.kp j3 (by simp)
    have nl := b2.ne hl
    have K3 := (k1.trans k2).trans (j3.mono (S' := [b]) (by simp))
    generalize upd H2 l (.lst [.str z1, .str z2, .str "any"]) = H3 at *
    clear ezs
    walk_at "nx"
    refine ⟨_, rfl, l, rfl, ⟨_, SqL.of el⟩, fun D hD => ?_⟩
    refine lc_list (K := K) (a := l) (xs := zs.map V.str) (fun i H' => Kp [] H3 H' ∧ ∃ as : List Addr, H' D = some (.lst (as.map V.ref)) ∧ Paired (PlAt K H') as (zs.take i)) ⟨Kp.refl.new hD, [], upd_same, by rw [List.take_zero]; exact .nil⟩ (fun i H' _ z => SqL.of (z.1 _ _ el (by simp))) ?_ ?_
    · rintro i y H4 hy ⟨k4, as, ea, pr⟩
      rw [List.getElem?_map] at hy
      obtain ⟨z, hz, rfl⟩ := Option.map_eq_some_iff.mp hy
      have hil := (List.getElem?_eq_some_iff.mp hz).1
      refine ⟨rfl, _, rfl, fun a t ha ht nta => ?_⟩
      have nD : ∀ {x : Addr}, H4 x = none → x ≠ D := fun e c => by rw [c, ea] at e; cases e
      have j5 : ∀ c o, H4 c = some o → upd (upd H4 t (.tup [.str z])) a (ExA (He.ga K "RoomError") t a) c = some o := fun c o e => (upd_ne (ne_of_none e ha)).trans ((upd_ne (ne_of_none e ht)).trans e)
      have ext : upd (upd H4 t (.tup [.str z])) a (ExA (He.ga K "RoomError") t a) t = some (.tup [.str z]) := (upd_ne nta).trans upd_same
      have exa : upd (upd H4 t (.tup [.str z])) a (ExA (He.ga K "RoomError") t a) a = some (ExA (He.ga K "RoomError") t a) := upd_same
      have n1 := nD ha
      have n2 := nD ht
      generalize upd (upd H4 t (.tup [.str z])) a (ExA (He.ga K "RoomError") t a) = H5 at *
      have eD := j5 _ _ ea
      have las := Paired.length pr
      rw [List.length_take] at las
      have up : ∀ {x : Addr} {s : Str}, PlAt K H5 x s → PlAt K (upd H5 D (.lst (as.map V.ref ++ [.ref a]))) x s := fun ⟨t2, e1, e2⟩ => by
        refine ⟨t2, (upd_ne fun c => ?_).trans e1, (upd_ne fun c => ?_).trans e2⟩
        · rw [c, eD] at e1
          have := Option.some.inj e1
          unfold ExA at this
          cases this
        · rw [c, eD] at e2; cases e2
      refine ⟨_, eD, (by rw [List.length_map]; exact sz_lt (by omega)), fun c o e _ => (upd_ne (ne_of_none e hD)).trans (j5 _ _ (k4 _ _ e (by simp))), as ++ [a], by rw [upd_same, List.map_append]; rfl, ?_⟩
      rw [List.take_succ_eq_append_getElem hil, (List.getElem?_eq_some_iff.mp hz).2]
      exact paired_snoc (paired_map pr fun x s h => up (h.kp j5)) (up ⟨t, exa, ext⟩)
    rintro H4 ⟨k4, as, ea, pr⟩
    rw [List.length_map, List.take_length] at pr
    have las := Paired.length pr
    have el4 := k4 _ _ el (by simp)
    have b4 := b3.kp k4 (by simp)
    walk_at "nx"
    refine ⟨_, rfl, _, rfl, D, l, _, _, rfl, SqL.of ea, SqL.of el4, for_it (walk_zip (K := K) (a := D) (b := l) (xs := as.map V.ref) (ys := zs.map V.str) rfl) (fun i σ H' => ∃ v3 v4, σ = [some (.ref b), some (.ref l), some (.ref D), v3, v4] ∧ Kp [] H4 H') ⟨_, _, rfl, Kp.refl⟩ (fun i σ H' _ ⟨_, _, _, k⟩ => ⟨SqL.of (k _ _ ea (by simp)), SqL.of (k _ _ el4 (by simp))⟩) ?_ ?_⟩
    · rintro i x0 σ H5 H6 hi ⟨v3, v4, rfl, k5⟩ ⟨T', x, y, rfl, hT, eH6, ex, ey⟩
      have kT : Kp [] H5 H6 := eH6 ▸ Kp.refl.new hT
      have eT : H6 T' = some (.tup [x, y]) := by rw [eH6]; exact upd_same
      clear eH6
      have ex : (as.map V.ref)[i]? = some x := ex
      have ey : (zs.map V.str)[i]? = some y := ey
      rw [List.getElem?_map] at ex ey
      obtain ⟨a, ha, rfl⟩ := Option.map_eq_some_iff.mp ex
      obtain ⟨z, hz, rfl⟩ := Option.map_eq_some_iff.mp ey
      obtain ⟨z', hz', hp⟩ := paired_get pr ha
      rw [hz] at hz'
      cases hz'
      obtain ⟨t, e1, e2⟩ := hp.kp fun c o e => (k5.trans kT) c o e (by simp)
      have xv : Xv H6 a (He.ga K "RoomError") [] := .inr ⟨t, e1, rfl⟩
      refine ⟨T', _, rfl, SqT.of eT, rfl, _, _, rfl, _, _, rfl, rfl, ?_⟩
      refine ⟨_, rfl, a, _, [], _, _, true, rfl, xv, exR, (fun _ h => h), T.isAll.rv, _, rfl, iteF ?_⟩
      refine ⟨_, rfl, a, "RoomError", [], -1, rfl, .inr ⟨rfl, rfl⟩, xv, fun H7 k7 => ?_⟩
      refine ⟨_, rfl, rfl, _, rfl, ?_⟩
      rw [show decide (V.int (-1) = V.int (-1)) = true from decide_eq_true rfl]
      refine iteF ?_
      refine ⟨_, rfl, a, _, t, z, rfl, k7 _ _ e1 (by simp), k7 _ _ e2 (by simp), T.isAll.rs, T.isAll.rb, _, rfl, rfl, _, rfl, ?_⟩
      rw [decide_eq_true rfl]
      exact iteF ⟨_, _, rfl, (k5.trans kT).trans k7⟩
    · rintro σ H5 ⟨v3, v4, rfl, k5⟩
      exact q H5 (K3.trans ((k4.trans k5).mono (by simp))) ((b4.kp k5 (by simp)).more (by omega))
end

end Lw
namespace Lw
open PySem PySem.Spec L2 FG
open PyProof.Rows hiding St
/-! ### bare things -/
theorem kind_in : ∀ e ∈ ENTS, ∃ j : Nat, KINDS[j]? = some e.c := by
  have h : (ENTS.all fun e => KINDS.contains e.c) = true := by decide +kernel
  intro e he
  have h1 : e.c ∈ KINDS := by simpa using List.all_eq_true.mp h e he
  exact List.getElem?_of_mem h1
theorem DpD.hid {H H' : Hp} {b : Addr} (k : ∀ a, a ≠ b → H' a = H a) {v : V} {d : PyData} (h : DpD (hide H [b]) v d) : DpD (hide H' [b]) v d :=
  DpD.mono (fun a o e => by
    obtain ⟨h1, h2⟩ := hide_at.mp e
    exact hide_in h1 ((k a (by simpa using h1)).trans h2)) _ _ h
theorem dp_pick {H : Hp} {xs : List V} {ds : List PyData} (h : DpDs H xs ds) (g : ∀ d ∈ ds, okX d 40 4) {i : Int} (h0 : 0 ≤ i) (h1 : i < xs.length) : ∃ v, atI xs i = some v ∧ ∃ d, DpD H v d ∧ okX d 40 4 := by
  obtain ⟨v, d, a, b, c⟩ := dp_some h g h0 h1
  exact ⟨v, a, d, b, c⟩
def spBare : Sp := fun vs H Q _ => ∃ (b : Addr) (n : Int), vs = [.ref b] ∧ BoxAt H b n ∧ n < 100000 ∧ ∀ H', Kp [b] H H' → BoxAt H' b (n + 50) → Q (.bl true) H'
section
variable {P : Program} {w : World} {K : PySem.W.Frag} {mg : Str → Option Value} {base : Heap}
theorem ok_bare (T : Tx K mg) {fd : FuncData} (F : Fun K "_law_bare_right" "_law_bare_right" s__law_bare_right (He.ga K "_law_bare_right") fd) (c__law_take : Cal P w K mg base 1 "_law_take" spTake) (c__law_text : Cal P w K mg base 2 "_law_text" spText) (c__law_number : Cal P w K mg base 2 "_law_number" (spNumber K)) (c__law_apart : Cal P w K mg base 2 "_law_apart" (spApart K)) (c__law_field : Cal P w K mg base 1 "_law_field" (spField K)) (c__law_made : Cal P w K mg base 3 "_law_made" (spMade K)) : FnG P w K mg base 4 (He.ga K "_law_bare_right") fd ["_law_box_here"] spBare := by
  refine FnG.of F sc__law_bare_right (fun vs H Q E h => ?_) (fun cdv A outer sh H vs Q E hr h => ?_)
  · obtain ⟨b, n, rfl, _⟩ := h; rfl
  · obtain ⟨b, n, rfl, hb, hn, q⟩ := h
    have e9 : (10 : Int) ^ Int.toNat 9 = 1000000000 := by decide +kernel
    have e30 : (10 : Int) ^ Int.toNat 30 = 1000000000000000000000000000000 := by decide +kernel
    refine ⟨_, pss_cons (ps_set (i := 1) sc__law_bare_right.nd rfl (by first | exact Or.inl rfl | exact Or.inr rfl) (pe_op op_add (pe_op op_sub (gc c__law_take (hr.mono (by decide)) takes0 (pa_cons (pv 0) (pa_cons (pe_op op_pow (pe_int) (pe_int)) (pa_nil)))) (pe_op op_pow (pe_int) (pe_int))) (pe_int)))
      (pss_cons (ps_set (i := 2) sc__law_bare_right.nd rfl (by first | exact Or.inl rfl | exact Or.inr rfl) (pe_lst (pa_cons (pv 1) (pa_cons (gc c__law_text (hr.mono (by decide)) takes0 (pa_cons (pv 0) (pa_nil))) (pa_cons (pe_non) (pa_cons (pe_bl) (pa_cons (pe_bl) (pa_cons (pe_tup (pa_nil)) (pa_cons (pe_tup (pa_cons (pe_int) (pa_cons (pe_lst (pa_cons (pe_str) (pa_nil))) (pa_nil)))) (pa_cons (pe_disp (pps_cons (pe_str) (pe_lst (pa_cons (pe_int) (pa_nil))) (pps_nil)) (by rfl) (by rfl) (fun z => by cases z) (by decide)) (pa_cons (pe_int) (pa_nil))))))))))))
      (pss_cons (ps_set (i := 3) sc__law_bare_right.nd rfl (by first | exact Or.inl rfl | exact Or.inr rfl) (pe_ix (kixL K) (pv 2) (gc c__law_take (hr.mono (by decide)) takes0 (pa_cons (pv 0) (pa_cons (pe_int) (pa_nil)))) (fun _ _ => rfl)))
      (pss_cons (ps_for (passes_of rfl) rfl (kiL K (gc c__law_made (hr.mono (by decide)) takes0 (pa_cons (pv 3) (pa_cons (pe_ix (kixL K) (pv 2) (gc c__law_take (hr.mono (by decide)) takes0 (pa_cons (pv 0) (pa_cons (pe_int) (pa_nil)))) (fun _ _ => rfl)) (pa_nil))))) (kgT K rfl (pgs_cons (pg_name (i := 4) sc__law_bare_right.nd rfl (by first | exact Or.inl rfl | exact Or.inr rfl)) (pgs_cons (pg_name (i := 5) sc__law_bare_right.nd rfl (by first | exact Or.inl rfl | exact Or.inr rfl)) (pgs_cons (pg_name (i := 6) sc__law_bare_right.nd rfl (by first | exact Or.inl rfl | exact Or.inr rfl)) (pgs_nil)))))
        (pss_one (ps_if (PW.pt (pw_or (pt_not (pt_val (gc c__law_apart (hr.mono (by decide)) takes0 (pa_cons (pv 4) (pa_cons (gc c__law_number (hr.mono (by decide)) takes0 (pa_cons (pv 4) (pa_nil))) (pa_nil)))))) (pw_or1 (pt_cmpR op_ne (pe_reprD T.sysm hr T.z_repr (gc c__law_field (hr.mono (by decide)) takes0 (pa_cons (pv 4) (pa_cons (pv 5) (pa_nil))))) (pe_reprD T.sysm hr T.z_repr (pv 6)) (by first | exact nomark _ | rfl))))) (pss_one (ps_ret (pe_bl))) (pss_nil))))
      (pss_one (ps_ret (pe_bl)))))), ?_⟩
    refine ⟨_, rfl, _, _, rfl, rfl, ⟨by decide, by decide, by decide⟩, b, n, _, rfl, hb, by omega, by decide +kernel, by decide +kernel, fun H1 d k1 b1 d0 d1 => ⟨_, _, rfl, rfl, ⟨by decide, by decide, by decide⟩, _, _, rfl, rfl, _, _, rfl, rfl, ?_⟩⟩
    rw [e9] at d1
    rw [e30]
    walk_at "nx"
    obtain ⟨far, efar⟩ : ∃ far : Int, far = d - 1000000000000000000000000000000 + 1 := ⟨_, rfl⟩
    rw [← efar]
    have hfar : far.natAbs < 100000000000000000000000000000000000000 := by omega
    clear efar
    refine ⟨_, rfl, _, rfl, b, _, rfl, b1, by omega, fun H2 z k2 b2 zs zl => ?_⟩
    have K2 := k1.kp.trans k2
    refine ⟨(by show 0 ≤ sizeLine; decide), fun t5 h5 => ?_⟩
    have e5 : upd H2 t5 (.tup []) t5 = some (.tup []) := upd_same
    have j5 := (Kp.refl (S := []) (H := H2)).new (o := .tup []) h5
    have n5 := b2.ne h5
    have b3 := b2.kp j5 (by simp)
    generalize upd H2 t5 (.tup []) = H3 at *
    refine ⟨(by show 1 ≤ sizeLine; decide), fun l6 h6 => ?_⟩
    have e6 : upd H3 l6 (.lst [.str "b"]) l6 = some (.lst [.str "b"]) := upd_same
    have j6 := (Kp.refl (S := []) (H := H3)).new (o := .lst [.str "b"]) h6
    have n6 := b3.ne h6
    have b4 := b3.kp j6 (by simp)
    have e5 := j6 _ _ e5 (by simp)
    generalize upd H3 l6 (.lst [.str "b"]) = H4 at *
    refine ⟨(by show 2 ≤ sizeLine; decide), fun t6 g6 => ?_⟩
    have f6 : upd H4 t6 (.tup [.int 1, .ref l6]) t6 = some (.tup [.int 1, .ref l6]) := upd_same
    have j7 := (Kp.refl (S := []) (H := H4)).new (o := .tup [.int 1, .ref l6]) g6
    have m6 := b4.ne g6
    have b5 := b4.kp j7 (by simp)
    have e5 := j7 _ _ e5 (by simp)
    have e6 := j7 _ _ e6 (by simp)
    generalize upd H4 t6 (.tup [.int 1, .ref l6]) = H5 at *
    refine fun p9 h9 => ⟨(by show 1 ≤ sizeLine; decide), fun l8 h8 => ?_⟩
    have c8 : l8 ≠ p9 := fun c => by rw [c, upd_same] at h8; cases h8
    refine ⟨(upd_ne c8.symm).trans upd_same, [(.inr "d", .ref l8)], rfl, (by show 1 ≤ 15; decide), ?_⟩
    obtain ⟨H7, eH7⟩ : ∃ H7, H7 = upd (upd (upd H5 p9 (.dK [])) l8 (.lst [.int 1])) p9 (.dK (mergeK [] [(.inr "d", .ref l8)])) := ⟨_, rfl⟩
    have e9' : H7 p9 = some (.dK [(.inr "d", .ref l8)]) := by rw [eH7, upd_same]; rfl
    have e8 : H7 l8 = some (.lst [.int 1]) := by rw [eH7, upd_ne c8, upd_same]
    have h8' : H5 l8 = none := (upd_ne c8).symm.trans h8
    have j8 : Kp [] H5 H7 := fun x o e _ => by rw [eH7, upd_ne (ne_of_none e h9), upd_ne (ne_of_none e h8'), upd_ne (ne_of_none e h9)]; exact e
    have n9 := b5.ne h9
    have n8 := b5.ne h8'
    have b7 := b5.kp j8 (by simp)
    have e5 := j8 _ _ e5 (by simp)
    have e6 := j8 _ _ e6 (by simp)
    have f6 := j8 _ _ f6 (by simp)
    rw [← eH7]
    clear eH7
    obtain ⟨its, eits⟩ : ∃ its, its = [V.int far, .str z, .non, .bl true, .bl false, .ref t5, .ref t6, .ref p9, .int 0] := ⟨_, rfl⟩
    have hits : DpDs (hide H7 [b]) its [.int far, .str z, .none, .bool true, .bool false, .tuple [], .tuple [.int 1, .list [.str "b"]], .dict [(.str "d", .list [.int 1])], .int 0] := by
      have hi : ∀ {a : Addr} {o : HO}, a ≠ b → H7 a = some o → hide H7 [b] a = some o := fun h e => hide_in (by simpa using h) e
      rw [eits]
      exact .cons (.int _) (.cons (.str _) (.cons .non (.cons (.bl _) (.cons (.bl _) (.cons (.tup (hi n5 e5) .nil) (.cons (.tup (hi m6 f6) (.cons (.int _) (.cons (.lst (hi n6 e6) (.cons (.str _) .nil)) .nil))) (.cons (.dct (hi n9 e9') (.lst (hi n8 e8) (.cons (.int _) .nil))) (.cons (.int _) .nil))))))))
    have sgc : ∀ {x : Str}, ((sl x).all fun c => decide (c < 16 ^ 8)) = true → sgS x := fun h c hc => of_decide_eq_true (List.all_eq_true.mp h c hc)
    have hok : ∀ e ∈ [PyData.int far, .str z, .none, .bool true, .bool false, .tuple [], .tuple [.int 1, .list [.str "b"]], .dict [(.str "d", .list [.int 1])], .int 0], okX e 40 4 := by
      have e38 : (10 : Nat) ^ 38 = 100000000000000000000000000000000000000 := by decide +kernel
      have i1 : ∀ i : Int, i.natAbs < 100000000000000000000000000000000000000 → okX (.int i) 1 0 := fun i h => (okX_int (by rw [e38]; omega)).more (by omega) (by omega)
      have s1 : ∀ x : Str, ((sl x).all fun c => decide (c < 16 ^ 8)) = true → x.length ≤ 1 → okX (.str x) 1 0 := fun x h g => (okX_str (sgc h)).more g (by omega)
      have l1 : ∀ x : PyData, okX x 1 0 → okX (.list [x]) 2 1 := fun x h => (okX_lst (B := 1) (D := 0) fun y hy => by rw [List.mem_singleton] at hy; rw [hy]; exact h).more (by show 1 * (1 + 1) ≤ 2; decide) (by omega)
      intro e he
      simp only [List.mem_cons, List.not_mem_nil, or_false] at he
      rcases he with rfl | rfl | rfl | rfl | rfl | rfl | rfl | rfl | rfl
      · exact (i1 _ hfar).more (by omega) (by omega)
      · exact (okX_str zs).more (by omega) (by omega)
      · exact okX_non.more (by omega) (by omega)
      · exact (okX_bl _).more (by omega) (by omega)
      · exact (okX_bl _).more (by omega) (by omega)
      · exact (okX_tup (B := 0) (D := 0) fun x hx => by cases hx).more (by decide) (by omega)
      · refine (okX_tup (B := 2) (D := 1) fun x hx => ?_).more (by decide) (by omega)
        simp only [List.mem_cons, List.not_mem_nil, or_false] at hx
        rcases hx with rfl | rfl
        · exact (i1 1 (by decide)).more (by omega) (by omega)
        · exact l1 _ (s1 _ (by decide +kernel) (by decide +kernel))
      · exact (okX_dct (B := 2) (D := 1) ((s1 _ (by decide +kernel) (by decide +kernel)).more (by omega) (by omega)) (l1 _ (i1 1 (by decide)))).more (by omega) (by omega)
      · exact (i1 0 (by decide)).more (by omega) (by omega)
    generalize [PyData.int far, .str z, .none, .bool true, .bool false, .tuple [], .tuple [.int 1, .list [.str "b"]], .dict [(.str "d", .list [.int 1])], .int 0] = dits at *
    have hlen : its.length = 9 := by rw [eits]; rfl
    refine ⟨(by show 9 ≤ sizeLine; decide), fun r hr2 => ?_⟩
    rw [← eits]
    have er : upd H7 r (.lst its) r = some (.lst its) := upd_same
    have j9 := (Kp.refl (S := []) (H := H7)).new (o := .lst its) hr2
    have nr := b7.ne hr2
    have b8 := b7.kp j9 (by simp)
    have hits := DpD.monos (fun a o e => (hide_in (hide_at.mp e).1 (j9 _ _ (hide_at.mp e).2 (by simp)) : hide (upd H7 r (.lst its)) [b] a = some o)) _ _ hits
    have K8 : Kp [b] H (upd H7 r (.lst its)) := (((((K2.trans (j5.mono (by simp))).trans (j6.mono (by simp))).trans (j7.mono (by simp))).trans (j8.mono (by simp))).trans (j9.mono (by simp)))
    generalize upd H7 r (.lst its) = H8 at *
    clear eits
    walk_at "nx"
    refine ⟨_, rfl, _, rfl, b, _, 9, rfl, b8, by omega, by decide, by decide, fun H9 i1 k9 b9 i10 i11 => ?_⟩
    obtain ⟨v, ev, dv, hv, gv⟩ := dp_pick hits hok i10 (by rw [hlen]; exact i11)
    refine ⟨r, _, _, _, rfl, rfl, SqL.of ((k9 r nr).trans er), ev, ?_⟩
    walk_at "nx"
    refine ⟨_, rfl, _, rfl, _, rfl, b, _, 9, rfl, b9, by omega, by decide, by decide, fun H10 i2 k10 b10 i20 i21 => ?_⟩
    have hits := DpD.monos (fun a o e => by
      obtain ⟨h1, h2⟩ := hide_at.mp e
      exact hide_in h1 ((k9 a (by simpa using h1)).trans h2) : ∀ a o, hide H8 [b] a = some o → hide H9 [b] a = some o) _ _ hits
    obtain ⟨u, eu, du, hu, gu⟩ := dp_pick hits hok i20 (by rw [hlen]; exact i21)
    have hv := DpD.hid k10 (DpD.hid k9 hv)
    have hu := DpD.hid k10 hu
    refine ⟨r, _, _, _, rfl, rfl, SqL.of ((k10 r nr).trans ((k9 r nr).trans er)), eu, v, u, rfl, fun l H11 ts hl k11 el pr => ?_⟩
    have hv := DpD.mono (fun a o e => k11 a o (hide_le a o e) (by simp)) _ _ hv
    have hu := DpD.mono (fun a o e => k11 a o (hide_le a o e) (by simp)) _ _ hu
    have b11 := b10.kp k11 (by simp)
    have K11 : Kp [b] H H11 := ((K8.trans k9.kp).trans k10.kp).trans (k11.mono (by simp))
    refine ⟨l, rfl, ⟨_, SqL.of el⟩, for_list (K := K) (a := l) (xs := ts.map V.ref) (fun i σ H' => ∃ v4 v5 v6, σ = [some (.ref b), some (.int far), some (.ref r), some v, v4, v5, v6] ∧ Kp [] H11 H') ⟨_, _, _, rfl, Kp.refl⟩ (fun i σ H' _ ⟨_, _, _, _, k⟩ => SqL.of (k _ _ el (by simp))) ?_ ?_⟩
    · rintro i x σ H12 hx ⟨v4, v5, v6, rfl, k12⟩
      rw [List.getElem?_map] at hx
      obtain ⟨t, ht, rfl⟩ := Option.map_eq_some_iff.mp hx
      obtain ⟨e, he, hp⟩ := paired_get pr ht
      obtain ⟨a, fs, kvs, et, hF, hf, xv, hl⟩ := hp.kp fun c o e => k12 c o e (by simp)
      obtain ⟨j, hj⟩ := kind_in e (List.mem_of_getElem? he)
      refine ⟨t, _, rfl, SqT.of et, rfl, _, _, rfl, _, _, rfl, _, _, rfl, rfl, ?_⟩
      refine ⟨_, rfl, _, rfl, a, e.c, kvs, _, rfl, .inl ⟨j, hj, rfl⟩, xv, fun H13 k13 => ⟨a, e.c, kvs, j, rfl, hj, xv.kp fun c o e => k13 c o e (by simp), fun H14 k14 => ⟨_, rfl, iteF ?_⟩⟩⟩
      have k1214 := k13.trans k14
      have hx : ∃ d, DpD H14 (if e.o then u else v) d ∧ okX d 40 4 := by
        cases e.o
        · exact ⟨dv, DpD.mono (fun a o e => k1214 a o (k12 a o e (by simp)) (by simp)) _ _ hv, gv⟩
        · exact ⟨du, DpD.mono (fun a o e => k1214 a o (k12 a o e (by simp)) (by simp)) _ _ hu, gu⟩
      obtain ⟨dx, hdx, gx⟩ := hx
      obtain ⟨g1, g2, g3⟩ := gx.fits (by omega) (by omega)
      refine ⟨_, rfl, _, rfl, a, e.f, e.c, fs, kvs, _, rfl, hF, hf, xv.kp (fun c o e => k1214 c o e (by simp)), hl, _, dx, rfl, hdx, g1, g2, g3, ?_⟩
      refine ⟨_, rfl, _, dx, rfl, hdx, g1, g2, g3, rfl, _, rfl, ?_⟩
      rw [decide_eq_true rfl]
      exact iteF ⟨_, _, _, rfl, k12.trans k1214⟩
    · rintro σ H12 ⟨v4, v5, v6, rfl, k12⟩
      exact q H12 (K11.trans (k12.mono (by simp))) ((b11.kp k12 (by simp)).more (by omega))
end

end Lw
namespace Lw
open PySem PySem.Spec L2 FG
open PyProof.Rows hiding St
/-! ### the law -/
theorem Kp.out {S : List Addr} {H H1 H2 : Hp} (k : Kp [] H H1) (k2 : Kp S H1 H2) (n : ∀ s ∈ S, H s = none) : Kp [] H H2 := fun b o e _ => k2 b o (k b o e (by simp)) fun hb => by rw [n b hb] at e; cases e
def spLaw (K : PySem.W.Frag) : Sp := fun vs H Q _ => ∃ (a : Addr) (ns : List Int), vs = [.ref a] ∧ ns.length ≤ 63 ∧ Scr K H a ns ∧ ∀ H', Q (.bl true) H'
/-- the numbers that are seen -/
def SEEN : List Int := (ENTS.map fun e => (KINDS.idxOf e.c : Int)) ++ [(KINDS.idxOf ("Ground" : Str) : Int), (KINDS.idxOf ("NoHouse" : Str) : Int), (KINDS.idxOf ("NoProgram" : Str) : Int)]
theorem seen_27 : apartN SEEN = 27 := by decide +kernel
theorem kind_at : ∀ e ∈ ENTS, KINDS[KINDS.idxOf e.c]? = some e.c := by
  have h : (ENTS.all fun e => KINDS[KINDS.idxOf e.c]? == some e.c) = true := by decide +kernel
  intro e he
  simpa using List.all_eq_true.mp h e he
/-- a thing: a list whose items stand apart from it and from the box -/
structure ThAt (H : Hp) (b p : Addr) (xs : List V) (ds : List PyData) : Prop where
  at_ : H p = some (.lst xs)
  dp : DpDs (hide H [b, p]) xs ds
  ok : ∀ d ∈ ds, okX d 40 4
  len : ds.length ≤ 5
  lx : xs.length = ds.length
theorem ThAt.kp {H H' : Hp} {b p : Addr} {xs : List V} {ds : List PyData} (h : ThAt H b p xs ds) (k : Kp [b] H H') (n : p ≠ b) : ThAt H' b p xs ds :=
  ⟨k _ _ h.at_ (by simpa using n), DpD.monos (fun a o e => by
    obtain ⟨h1, h2⟩ := hide_at.mp e
    refine hide_in h1 (k a o h2 ?_)
    simp only [List.mem_cons, List.not_mem_nil, or_false, not_or] at h1
    simpa using h1.1) _ _ h.dp, h.ok, h.len, h.lx⟩
/-- as it is, and with a text behind -/
theorem ThAt.shown {H : Hp} {b p : Addr} {xs : List V} {ds : List PyData} (h : ThAt H b p xs ds) : DpD H (.ref p) (.list ds) ∧ (PyData.list ds).showable = true ∧ (PyData.list ds).shown.length ≤ sizeLine ∧ (PyData.list ds).depth ≤ 60 := by
  refine ⟨.lst h.at_ (DpD.monos (fun a o e => hide_le a o e) _ _ h.dp), ?_⟩
  have g := okX_lst h.ok
  exact (g.more (B' := 3000) (D' := 50) (by have := h.len; omega) (by omega)).fits (by omega) (by omega)
theorem ThAt.more {H : Hp} {b p : Addr} {xs : List V} {ds : List PyData} (h : ThAt H b p xs ds) {z : Str} (hz : sgS z) (hl : z.length ≤ 6) :
    DpD (upd H p (.lst (xs ++ [.str z]))) (.ref p) (.list (ds ++ [.str z])) ∧ (PyData.list (ds ++ [.str z])).showable = true ∧ (PyData.list (ds ++ [.str z])).shown.length ≤ sizeLine ∧ (PyData.list (ds ++ [.str z])).depth ≤ 60 := by
  refine ⟨.lst upd_same (dpDs_snoc (DpD.monos (fun a o e => ?_) _ _ h.dp) (.str z)), ?_⟩
  · obtain ⟨h1, h2⟩ := hide_at.mp e
    simp only [List.mem_cons, List.not_mem_nil, or_false, not_or] at h1
    exact (upd_ne h1.2).trans h2
  · have g : okX (.list (ds ++ [.str z])) _ _ := okX_lst (B := 40) (D := 4) fun d hd => by
      rcases List.mem_append.mp hd with y | y
      · exact h.ok d y
      · rw [List.mem_singleton] at y; rw [y]; exact (okX_str hz).more (by omega) (by omega)
    have ll : (ds ++ [PyData.str z]).length ≤ 6 := by rw [List.length_append]; have := h.len; simpa using this
    exact (g.more (B' := 3000) (D' := 50) (by omega) (by omega)).fits (by omega) (by omega)
theorem fname_ok : ∀ e ∈ ENTS, sgS e.f ∧ e.f.length ≤ 6 := by
  have h : (ENTS.all fun e => ((sl e.f).all fun c => decide (c < 16 ^ 8)) && decide (e.f.length ≤ 6)) = true := by decide +kernel
  intro e he
  have := List.all_eq_true.mp h e he
  rw [Bool.and_eq_true] at this
  exact ⟨fun c hc => of_decide_eq_true (List.all_eq_true.mp this.1 c hc), of_decide_eq_true this.2⟩
theorem Xv.kpL {H H' : Hp} {a C : Addr} {kvs : List (Str × V)} (x : Xv H a C kvs) (k : ∀ b o, H b = some o → (∀ ys, o ≠ .lst ys) → H' b = some o) : Xv H' a C kvs := by
  rcases x with ⟨d, e1, e2⟩ | ⟨t, e1, e2⟩
  · exact .inl ⟨d, k _ _ e1 (fun ys z => by unfold exo at z; cases z), k _ _ e2 (fun ys z => by unfold exd at z; cases z)⟩
  · exact .inr ⟨t, k _ _ e1 (fun ys z => by unfold ExA at z; cases z), e2⟩
theorem last_int {ns : List Int} {z : Int} (h : ns.getLast? = some z) : atI (ns.map V.int) (-1) = some (.int z) := by
  obtain ⟨ms, rfl⟩ := List.getLast?_eq_some_iff.mp h
  rw [List.map_append]
  exact L2.atI_last _ _
section
variable {P : Program} {w : World} {K : PySem.W.Frag} {mg : Str → Option Value} {base : Heap}
theorem ok_law (T : Tx K mg) {fd : FuncData} (F : Fun K "law" "law" s_law (He.ga K "law") fd) (c__law_cell : Cal P w K mg base 1 "_law_cell" (spCell K)) (c__law_box : Cal P w K mg base 1 "_law_box" spBox) (c__law_thing : Cal P w K mg base 2 "_law_thing" spThing)
    (c__law_plain_right : Cal P w K mg base 3 "_law_plain_right" spPlain) (c__law_bare_right : Cal P w K mg base 4 "_law_bare_right" spBare) (c__law_number : Cal P w K mg base 2 "_law_number" (spNumber K)) (c__law_apart : Cal P w K mg base 2 "_law_apart" (spApart K)) (c__law_field : Cal P w K mg base 1 "_law_field" (spField K)) (c__law_made : Cal P w K mg base 3 "_law_made" (spMade K)) : FnG P w K mg base 5 (He.ga K "law") fd ["_law_script"] (spLaw K) := by
  refine FnG.of F sc_law (fun vs H Q E h => ?_) (fun cdv A outer s H vs Q E hr h => ?_)
  · obtain ⟨a, ns, rfl, _⟩ := h; rfl
  · obtain ⟨a, ns, rfl, hlen, scr, q⟩ := h
    refine ⟨_, pss_cons (ps_for (passes_of rfl) rfl (pi_range1 rfl T.z_range (pa_cons (pe_callB (call_max2 rfl) (by rfl) T.z_max (by decide +kernel) (pa_cons (pe_int) (pa_cons (pe_callB (call_min2 rfl) (by rfl) T.z_min (by decide +kernel) (pa_cons (pe_int) (pa_cons (pe_callB (klen K) (by rfl) T.z_len PySem.boot_len (pa_cons (pv 0) (pa_nil))) (pa_nil)))) (pa_nil)))) (pa_nil))) (pg_name (i := 1) sc_law.nd rfl (by first | exact Or.inl rfl | exact Or.inr rfl))
        (pss_cons (ps_set (i := 2) sc_law.nd rfl (by first | exact Or.inl rfl | exact Or.inr rfl) (gc c__law_box (hr.mono (by decide)) takes0 (pa_cons (gc c__law_cell (hr.mono (by decide)) takes0 (pa_cons (pv 0) (pa_cons (pv 1) (pa_nil)))) (pa_nil))))
      (pss_cons (ps_set (i := 3) sc_law.nd rfl (by first | exact Or.inl rfl | exact Or.inr rfl) (gc c__law_thing (hr.mono (by decide)) takes0 (pa_cons (pv 2) (pa_nil))))
      (pss_cons (ps_set (i := 4) sc_law.nd rfl (by first | exact Or.inl rfl | exact Or.inr rfl) (gc c__law_thing (hr.mono (by decide)) takes0 (pa_cons (pv 2) (pa_nil))))
      (pss_cons (ps_if (PW.pt (pw_or (pt_not (pt_val (gc c__law_plain_right (hr.mono (by decide)) takes0 (pa_cons (pv 2) (pa_nil))))) (pw_or1 (pt_not (pt_val (gc c__law_bare_right (hr.mono (by decide)) takes0 (pa_cons (pv 2) (pa_nil)))))))) (pss_one (ps_ret (pe_bl))) (pss_nil))
      (pss_cons (ps_set (i := 5) sc_law.nd rfl (by first | exact Or.inl rfl | exact Or.inr rfl) (pe_lst (pa_nil)))
      (pss_cons (ps_for (passes_of rfl) rfl (kiL K (gc c__law_made (hr.mono (by decide)) takes0 (pa_cons (pv 3) (pa_cons (pv 4) (pa_nil))))) (kgT K rfl (pgs_cons (pg_name (i := 6) sc_law.nd rfl (by first | exact Or.inl rfl | exact Or.inr rfl)) (pgs_cons (pg_name (i := 7) sc_law.nd rfl (by first | exact Or.inl rfl | exact Or.inr rfl)) (pgs_cons (pg_name (i := 8) sc_law.nd rfl (by first | exact Or.inl rfl | exact Or.inr rfl)) (pgs_nil)))))
        (pss_cons (ps_expr (kbm K PySem.F.plainAttrs_list PySem.F.slot_list_append PySem.F.type_list_append mt_append (pv 5) (pa_cons (gc c__law_number (hr.mono (by decide)) takes0 (pa_cons (pv 6) (pa_nil))) (pa_nil))))
      (pss_cons (ps_if (PW.pt (pw_or (pt_not (pt_val (gc c__law_apart (hr.mono (by decide)) takes0 (pa_cons (pv 6) (pa_cons (pe_ix (kixL K) (pv 5) (pe_un un_neg (pe_int)) (fun _ _ => rfl)) (pa_nil)))))) (pw_or1 (pt_cmpR op_ne (pe_reprD T.sysm hr T.z_repr (gc c__law_field (hr.mono (by decide)) takes0 (pa_cons (pv 6) (pa_cons (pv 7) (pa_nil))))) (pe_reprD T.sysm hr T.z_repr (pv 8)) (by first | exact nomark _ | rfl))))) (pss_one (ps_ret (pe_bl))) (pss_nil))
      (pss_cons (ps_expr (kbm K PySem.F.plainAttrs_list PySem.F.slot_list_append PySem.F.type_list_append mt_append (pv 8) (pa_cons (pv 7) (pa_nil))))
      (pss_cons (ps_if (pt_cmpR op_ne (pe_reprD T.sysm hr T.z_repr (gc c__law_field (hr.mono (by decide)) takes0 (pa_cons (pv 6) (pa_cons (pv 7) (pa_nil))))) (pe_reprD T.sysm hr T.z_repr (pv 8)) (by first | exact nomark _ | rfl)) (pss_one (ps_ret (pe_bl))) (pss_nil))
      (pss_cons (ps_expr (kbm0 K PySem.F.plainAttrs_list PySem.F.slot_list_pop PySem.F.type_list_pop mt_pop (pv 8)))
      (pss_one (ps_if (pt_cmpR op_ne (pe_reprD T.sysm hr T.z_repr (gc c__law_field (hr.mono (by decide)) takes0 (pa_cons (pv 6) (pa_cons (pv 7) (pa_nil))))) (pe_reprD T.sysm hr T.z_repr (pv 8)) (by first | exact nomark _ | rfl)) (pss_one (ps_ret (pe_bl))) (pss_nil)))))))))
      (pss_cons (ps_for (passes_of rfl) rfl (kiL K (pe_lst (pa_cons (pe_x0 T.x_Ground T.g_Ground) (pa_cons (pe_x0 T.x_NoHouse T.g_NoHouse) (pa_cons (pe_x0 T.x_NoProgram T.g_NoProgram) (pa_nil)))))) (pg_name (i := 6) sc_law.nd rfl (by first | exact Or.inl rfl | exact Or.inr rfl))
        (pss_cons (ps_expr (kbm K PySem.F.plainAttrs_list PySem.F.slot_list_append PySem.F.type_list_append mt_append (pv 5) (pa_cons (gc c__law_number (hr.mono (by decide)) takes0 (pa_cons (pv 6) (pa_nil))) (pa_nil))))
      (pss_one (ps_if (pt_not (pt_val (gc c__law_apart (hr.mono (by decide)) takes0 (pa_cons (pv 6) (pa_cons (pe_ix (kixL K) (pv 5) (pe_un un_neg (pe_int)) (fun _ _ => rfl)) (pa_nil)))))) (pss_one (ps_ret (pe_bl))) (pss_nil)))))
      (pss_one (ps_if (pt_cmpR op_ne (pe_lenSetG (by rfl) T.z_len (by rfl) T.z_set (pv 5)) (pe_int) (by first | exact nomark _ | rfl)) (pss_one (ps_ret (pe_bl))) (pss_nil)))))))))))
      (pss_one (ps_ret (pe_bl))), ?_⟩
    refine ⟨_, rfl, a, _, rfl, .inl scr.sq, _, _, rfl, _, _, rfl, _, rfl, ?_, ?_, for_range (lo := 0) (n := _) (fun i σ H' => ∃ v1 v2 v3 v4 v5 v6 v7 v8, σ = [some (.ref a), v1, v2, v3, v4, v5, v6, v7, v8] ∧ Scr K H' a ns) ⟨_, _, _, _, _, _, _, _, rfl, scr⟩ ?_ ?_⟩
    · rw [List.length_map]; split <;> split <;> omega
    · rw [List.length_map]; split <;> split <;> omega
    · rintro i σ H7 hi ⟨v1, v2, v3, v4, v5, v6, v7, v8, rfl, s7⟩
      refine ⟨_, rfl, _, rfl, a, ns, i, by rw [Int.zero_add], s7.sq, fun z => ⟨z, rfl, fun b H8 hb k8 bx8 => ?_⟩⟩
      have K8 : Kp [] H7 H8 := fun c o e _ => k8.kp c o e (by simpa using ne_of_none e hb)
      refine ⟨_, rfl, b, _, rfl, bx8, by omega, fun p H9 xs ds np k9 b9 ep hp gp lp lx => ?_⟩
      refine ⟨_, rfl, b, _, rfl, b9, by omega, fun r H10 ys es nr k10 b10 er hq gr lr ly => ?_⟩
      have npb : p ≠ b := fun c => by
        obtain ⟨x, y, z, e, _⟩ := bx8
        rw [c, e] at np; cases np
      have nrb : r ≠ b := fun c => by
        obtain ⟨x, y, z, e, _⟩ := b9
        rw [c, e] at nr; cases nr
      have tp : ThAt H9 b p xs ds := ⟨ep, hp, gp, lp, lx⟩
      have tp := tp.kp k10 npb
      have tr : ThAt H10 b r ys es := ⟨er, hq, gr, lr, ly⟩
      have s10 : Kp [] H7 H10 := (Kp.out K8 k9 (by simpa using hb)).out k10 (by simpa using hb)
      clear ep hp gp lp lx er hq gr lr ly
      walk_at "nx"
      refine ⟨_, rfl, b, _, rfl, b10, by omega, fun H11 k11 b11 => ⟨_, rfl, iteF ⟨_, rfl, b, _, rfl, b11, by omega, fun H12 k12 b12 => ⟨_, rfl, iteF ?_⟩⟩⟩⟩
      have tp := (tp.kp k11 npb).kp k12 npb
      have tr := (tr.kp k11 nrb).kp k12 nrb
      have s12 : Kp [] H7 H12 := (s10.out k11 (by simpa using hb)).out k12 (by simpa using hb)
      walk_at "nx"
      refine ⟨(by show 0 ≤ sizeLine; decide), fun S hS => ?_⟩
      have eS : upd H12 S (.lst []) S = some (.lst (([] : List Int).map V.int)) := upd_same
      have j1 := (Kp.refl (S := []) (H := H12)).new (o := .lst []) hS
      have nbS := b12.ne hS
      have npS : S ≠ p := fun c => by rw [c, tp.at_] at hS; cases hS
      have nrS : S ≠ r := fun c => by rw [c, tr.at_] at hS; cases hS
      have nSb : S ≠ b := nbS
      have b12 := b12.kp j1 (by simp)
      have hS7 : H7 S = none := Kp.free s12 hS
      have s12 := s12.trans j1
      generalize upd H12 S (.lst []) = H13 at *
      walk_at "nx"
      refine ⟨_, rfl, _, rfl, .ref p, .ref r, rfl, fun l H14 ts hl k14 el pr => ?_⟩
      have nlS : l ≠ S := fun c => by rw [c, eS] at hl; cases hl
      have eS := k14 _ _ eS (by simp)
      have s14 := s12.trans k14
      have k1214 : Kp [] H12 H14 := j1.trans k14
      have hS12 : ∀ H', Kp [S] H14 H' → Kp [] H12 H' := fun H' k => Kp.out k1214 k (by simpa using hS)
      have hS14 : ∀ H', Kp [S] H14 H' → Kp [] H7 H' := fun H' k => Kp.out s14 k (by simpa using hS7)
      have lts : ts.length = ENTS.length := Paired.length pr
      have l26 : ENTS.length = 26 := by decide +kernel
      refine ⟨l, rfl, ⟨_, SqL.of el⟩, for_list (K := K) (a := l) (xs := ts.map V.ref) (fun i σ H' => ∃ v1 v6 v7 v8, σ = [some (.ref a), v1, some (.ref b), some (.ref p), some (.ref r), some (.ref S), v6, v7, v8] ∧ Kp [S] H14 H' ∧ H' S = some (.lst (((ENTS.take i).map fun e => (KINDS.idxOf e.c : Int)).map V.int))) ⟨_, _, _, _, rfl, Kp.refl, eS⟩ (fun i σ H' _ ⟨_, _, _, _, _, k, _⟩ => SqL.of (k _ _ el (by simpa using nlS))) ?_ ?_⟩
      · rintro j x σ H15 hx ⟨v1, v6, v7, v8, rfl, k15, eS15⟩
        rw [List.getElem?_map] at hx
        obtain ⟨t, ht, rfl⟩ := Option.map_eq_some_iff.mp hx
        obtain ⟨e, he, hp⟩ := paired_get pr ht
        have hem := List.mem_of_getElem? he
        have hjl := (List.getElem?_eq_some_iff.mp he).1
        have up : ∀ x o, H14 x = some o → (∀ ys, o ≠ .lst ys) → H15 x = some o := fun x o hx hn => k15 _ _ hx (by
          rw [List.mem_singleton]
          intro c
          rw [c, eS] at hx
          cases hx
          exact hn _ rfl)
        obtain ⟨a1, fs, kvs, et, hF, hf, xv, hl1⟩ := hp
        have et := up _ _ et (by simp)
        have xv := Xv.kpL xv up
        obtain ⟨po, zs, fs', epo, nSp, npob, tho⟩ : ∃ (po : Addr) (zs : List V) (fs' : List PyData), (if e.o then V.ref r else V.ref p) = V.ref po ∧ po ≠ S ∧ po ≠ b ∧ ThAt H12 b po zs fs' := by
          cases e.o
          · exact ⟨p, xs, ds, rfl, npS.symm, npb, tp⟩
          · exact ⟨r, ys, es, rfl, nrS.symm, nrb, tr⟩
        rw [epo] at et hl1
        refine ⟨t, _, rfl, SqT.of et, rfl, _, _, rfl, _, _, rfl, _, _, rfl, rfl, ?_⟩
        refine ⟨_, rfl, .inl ⟨rfl, _, SqL.of eS15⟩, _, rfl, a1, e.c, kvs, (KINDS.idxOf e.c : Int), rfl, .inl ⟨_, kind_at e hem, rfl⟩, xv, fun H16 k16 => ?_⟩
        have eS16 := k16 _ _ eS15 (by simp)
        have xv := xv.kp fun c o e => k16 c o e (by simp)
        have k16S : Kp [S] H14 H16 := k15.trans (k16.mono (by simp))
        have t16 := tho.kp ((hS12 _ k16S).mono (by simp)) npob
        refine ⟨S, _, _, rfl, rfl, eS16, (by rw [List.length_map, List.length_map]; exact sz_lt (by rw [List.length_take]; omega)), ?_⟩
        have eS17 : upd H16 S (.lst (((ENTS.take j).map fun e => (KINDS.idxOf e.c : Int)).map V.int ++ [.int (KINDS.idxOf e.c : Int)])) S = some (.lst (((ENTS.take (j + 1)).map fun e => (KINDS.idxOf e.c : Int)).map V.int)) := by
          rw [upd_same, List.take_succ, he]
          simp
        have k17 : Kp [S] H14 (upd H16 S (.lst (((ENTS.take j).map fun e => (KINDS.idxOf e.c : Int)).map V.int ++ [.int (KINDS.idxOf e.c : Int)]))) := fun c o e h => (upd_ne (by simpa using h)).trans (k16S c o e h)
        have xv := Xv.kpL xv (H' := upd H16 S (.lst (((ENTS.take j).map fun e => (KINDS.idxOf e.c : Int)).map V.int ++ [.int (KINDS.idxOf e.c : Int)]))) fun c o e h => (upd_ne fun z => by
          rw [z, eS16] at e; cases e; exact h _ rfl).trans e
        have t17 := tho.kp ((hS12 _ k17).mono (by simp)) npob
        generalize upd H16 S (.lst (((ENTS.take j).map fun e => (KINDS.idxOf e.c : Int)).map V.int ++ [.int (KINDS.idxOf e.c : Int)])) = H17 at *
        refine ⟨_, rfl, _, rfl, _, rfl, S, _, _, .int (KINDS.idxOf e.c : Int), rfl, rfl, SqL.of eS17, ?_, ?_⟩
        · refine last_int ?_
          rw [List.take_succ, he]; simp
        refine ⟨a1, e.c, kvs, KINDS.idxOf e.c, rfl, kind_at e hem, xv, fun H18 k18 => ⟨_, rfl, iteF ?_⟩⟩
        have k18S : Kp [S] H14 H18 := k17.trans (k18.mono (by simp))
        have t18 := tho.kp ((hS12 _ k18S).mono (by simp)) npob
        have eS18 := k18 _ _ eS17 (by simp)
        have xv := xv.kp fun c o e => k18 c o e (by simp)
        obtain ⟨g0, g1, g2, g3⟩ := t18.shown
        refine ⟨_, rfl, _, rfl, a1, e.f, e.c, fs, kvs, _, rfl, hF, hf, xv, hl1, _, _, rfl, g0, g1, g2, g3, ?_⟩
        refine ⟨_, rfl, _, _, rfl, g0, g1, g2, g3, rfl, _, rfl, ?_⟩
        rw [decide_eq_true rfl]
        refine iteF ?_
        refine ⟨_, rfl, .inl ⟨rfl, _, SqL.of t18.at_⟩, _, rfl, po, _, _, rfl, rfl, t18.at_, (by rw [t18.lx]; exact sz_lt (by have := t18.len; omega)), ?_⟩
        obtain ⟨g0, g1, g2, g3⟩ := t18.more (fname_ok e hem).1 (fname_ok e hem).2
        have xv' := Xv.kpL xv (H' := upd H18 po (.lst (zs ++ [.str e.f]))) fun c o e h => (upd_ne fun z => by
          rw [z, t18.at_] at e; cases e; exact h _ rfl).trans e
        refine ⟨_, rfl, _, rfl, a1, e.f, e.c, fs, kvs, _, rfl, hF, hf, xv', hl1, _, _, rfl, g0, g1, g2, g3, ?_⟩
        refine ⟨_, rfl, _, _, rfl, g0, g1, g2, g3, rfl, _, rfl, ?_⟩
        rw [decide_eq_true rfl]
        refine iteF ?_
        refine ⟨_, rfl, .inl ⟨rfl, _, SqL.of upd_same⟩, po, _, .str e.f, rfl, rfl, upd_same, (by rw [List.length_append]; simp), ?_⟩
        have ex : ∀ c, upd (upd H18 po (.lst (zs ++ [.str e.f]))) po (.lst (zs ++ [V.str e.f]).dropLast) c = H18 c := fun c => by
          rw [List.dropLast_concat]
          by_cases z : c = po
          · rw [z, upd_same, t18.at_]
          · rw [upd_ne z, upd_ne z]
        generalize upd (upd H18 po (.lst (zs ++ [.str e.f]))) po (.lst (zs ++ [V.str e.f]).dropLast) = H19 at *
        obtain ⟨g0, g1, g2, g3⟩ := t18.shown
        have g0 := DpD.mono (fun a o e => (ex a).trans e) _ _ g0
        have xv := xv.kp fun c o e => (ex c).trans e
        refine ⟨_, rfl, _, rfl, a1, e.f, e.c, fs, kvs, _, rfl, hF, hf, xv, hl1, _, _, rfl, g0, g1, g2, g3, ?_⟩
        refine ⟨_, rfl, _, _, rfl, g0, g1, g2, g3, rfl, _, rfl, ?_⟩
        rw [decide_eq_true rfl]
        refine iteF ?_
        exact ⟨_, _, _, _, rfl, fun c o e h => (ex c).trans (k18S c o e h), (ex S).trans eS18⟩
      · rintro σ H15 ⟨v1, v6, v7, v8, rfl, k15, eS15⟩
        rw [List.length_map, lts, List.take_length] at eS15
        walk_at "nx"
        refine fun g1 t1 h1 g2 t2 h2 g3 t3 h3 => ⟨(by show 3 ≤ sizeLine; decide), fun L hL => ?_⟩
        have x1 : Xv (upd H15 g1 (ExA (He.ga K "Ground") t1 g1)) g1 (He.ga K "Ground") [] := .inr ⟨t1, upd_same, rfl⟩
        have q1 : Kp [] H15 (upd H15 g1 (ExA (He.ga K "Ground") t1 g1)) := Kp.refl.new h1
        generalize upd H15 g1 (ExA (He.ga K "Ground") t1 g1) = G1 at *
        have x2 : Xv (upd G1 g2 (ExA (He.ga K "NoHouse") t2 g2)) g2 (He.ga K "NoHouse") [] := .inr ⟨t2, upd_same, rfl⟩
        have q2 : Kp [] G1 (upd G1 g2 (ExA (He.ga K "NoHouse") t2 g2)) := Kp.refl.new h2
        generalize upd G1 g2 (ExA (He.ga K "NoHouse") t2 g2) = G2 at *
        have x3 : Xv (upd G2 g3 (ExA (He.ga K "NoProgram") t3 g3)) g3 (He.ga K "NoProgram") [] := .inr ⟨t3, upd_same, rfl⟩
        have q3 : Kp [] G2 (upd G2 g3 (ExA (He.ga K "NoProgram") t3 g3)) := Kp.refl.new h3
        generalize upd G2 g3 (ExA (He.ga K "NoProgram") t3 g3) = G3 at *
        have eL : upd G3 L (.lst [.ref g1, .ref g2, .ref g3]) L = some (.lst ([g1, g2, g3].map V.ref)) := upd_same
        have q4 : Kp [] G3 (upd G3 L (.lst [.ref g1, .ref g2, .ref g3])) := Kp.refl.new hL
        generalize upd G3 L (.lst [.ref g1, .ref g2, .ref g3]) = G4 at *
        have x1 := x1.kp fun c o e => (q2.trans (q3.trans q4)) c o e (by simp)
        have x2 := x2.kp fun c o e => (q3.trans q4) c o e (by simp)
        have x3 := x3.kp fun c o e => q4 c o e (by simp)
        have q15 : Kp [] H15 G4 := q1.trans (q2.trans (q3.trans q4))
        have eS4 := q15 _ _ eS15 (by simp)
        have k4 : Kp [S] H14 G4 := k15.trans (q15.mono (by simp))
        have nLS : L ≠ S := fun c => by have := congrArg List.length (HO.lst.inj (Option.some.inj ((c ▸ eS4).symm.trans eL))); rw [List.length_map, List.length_map, List.length_map] at this; rw [l26] at this; cases this
        have px : Paired (fun (g : Addr) (c : Str) => Xv G4 g (He.ga K c) [] ∧ KINDS[KINDS.idxOf c]? = some c) [g1, g2, g3] (["Ground", "NoHouse", "NoProgram"] : List Str) := .cons ⟨x1, by decide +kernel⟩ (.cons ⟨x2, by decide +kernel⟩ (.cons ⟨x3, by decide +kernel⟩ .nil))
        generalize hgs : [g1, g2, g3] = gs at *
        have lgs : gs.length = 3 := by rw [← hgs]; rfl
        generalize hcs : (["Ground", "NoHouse", "NoProgram"] : List Str) = cs at *
        refine ⟨L, rfl, ⟨_, SqL.of eL⟩, for_list (K := K) (a := L) (xs := gs.map V.ref) (fun i σ H' => ∃ v1 v6 v7 v8, σ = [some (.ref a), v1, some (.ref b), some (.ref p), some (.ref r), some (.ref S), v6, v7, v8] ∧ Kp [S] G4 H' ∧ H' S = some (.lst (((ENTS.map fun e => (KINDS.idxOf e.c : Int)) ++ (cs.take i).map fun c => (KINDS.idxOf c : Int)).map V.int))) ⟨_, _, _, _, rfl, Kp.refl, by rw [List.take_zero, List.map_nil, List.append_nil]; exact eS4⟩ (fun i σ H' _ ⟨_, _, _, _, _, k, _⟩ => SqL.of (k _ _ eL (by simpa using nLS))) ?_ ?_⟩
        · rintro j x σ H16 hx ⟨v1, v6, v7, v8, rfl, k16, eS16⟩
          rw [List.getElem?_map] at hx
          obtain ⟨g, hg, rfl⟩ := Option.map_eq_some_iff.mp hx
          obtain ⟨c, hc, xv, hk⟩ := paired_get px hg
          have hjl := (List.getElem?_eq_some_iff.mp hg).1
          have xv := Xv.kpL xv (H' := H16) fun x o e h => k16 x o e (by
            rw [List.mem_singleton]
            intro z
            rw [z, eS4] at e
            cases e
            exact h _ rfl)
          refine ⟨_, rfl, .inl ⟨rfl, _, SqL.of eS16⟩, _, rfl, g, c, [], (KINDS.idxOf c : Int), rfl, .inl ⟨_, hk, rfl⟩, xv, fun H17 k17 => ?_⟩
          have eS17 := k17 _ _ eS16 (by simp)
          have xv := xv.kp fun c o e => k17 c o e (by simp)
          refine ⟨S, _, _, rfl, rfl, eS17, (by rw [List.length_map, List.length_append, List.length_map]; exact sz_lt (by rw [List.length_map, List.length_take]; omega)), ?_⟩
          have eS18 : upd H17 S (.lst (((ENTS.map fun e => (KINDS.idxOf e.c : Int)) ++ (cs.take j).map fun c => (KINDS.idxOf c : Int)).map V.int ++ [.int (KINDS.idxOf c : Int)])) S = some (.lst (((ENTS.map fun e => (KINDS.idxOf e.c : Int)) ++ (cs.take (j + 1)).map fun c => (KINDS.idxOf c : Int)).map V.int)) := by
            rw [upd_same, List.take_succ, hc]
            simp
          have k18 : Kp [S] G4 (upd H17 S (.lst (((ENTS.map fun e => (KINDS.idxOf e.c : Int)) ++ (cs.take j).map fun c => (KINDS.idxOf c : Int)).map V.int ++ [.int (KINDS.idxOf c : Int)]))) := fun c o e h => (upd_ne (by simpa using h)).trans (k17 c o (k16 c o e h) (by simp))
          have xv := Xv.kpL xv (H' := upd H17 S (.lst (((ENTS.map fun e => (KINDS.idxOf e.c : Int)) ++ (cs.take j).map fun c => (KINDS.idxOf c : Int)).map V.int ++ [.int (KINDS.idxOf c : Int)]))) fun c o e h => (upd_ne fun z => by
            rw [z, eS17] at e; cases e; exact h _ rfl).trans e
          generalize upd H17 S (.lst (((ENTS.map fun e => (KINDS.idxOf e.c : Int)) ++ (cs.take j).map fun c => (KINDS.idxOf c : Int)).map V.int ++ [.int (KINDS.idxOf c : Int)])) = H18 at *
          refine ⟨_, rfl, _, rfl, _, rfl, S, _, _, .int (KINDS.idxOf c : Int), rfl, rfl, SqL.of eS18, ?_, ?_⟩
          · refine last_int ?_
            rw [List.take_succ, hc]; simp
          refine ⟨g, c, [], KINDS.idxOf c, rfl, hk, xv, fun H19 k19 => ⟨_, rfl, iteF ?_⟩⟩
          exact ⟨_, _, _, _, rfl, k18.trans (k19.mono (by simp)), k19 _ _ eS18 (by simp)⟩
        · rintro σ H16 ⟨v1, v6, v7, v8, rfl, k16, eS16⟩
          have eqS : (ENTS.map fun e => (KINDS.idxOf e.c : Int)) ++ (cs.take (gs.map V.ref).length).map (fun c => (KINDS.idxOf c : Int)) = SEEN := by
            rw [List.length_map, lgs, ← hcs]; rfl
          rw [eqS] at eS16
          refine ⟨_, rfl, S, SEEN, rfl, SqL.of eS16, (by decide +kernel), ?_⟩
          rw [seen_27]
          refine ⟨rfl, _, rfl, iteF ?_⟩
          exact ⟨_, _, _, _, _, _, _, _, rfl, s7.kp0 (hS14 _ (k4.trans k16))⟩
    · rintro σ H7 ⟨v1, v2, v3, v4, v5, v6, v7, v8, rfl, s7⟩
      exact q H7
end

end Lw
namespace Lw
open PySem PySem.Spec L2 FG
open PyProof.Rows hiding St
/-! ### all together -/
section
variable {P : Program} {w : World} {K : PySem.W.Frag} {mg : Str → Option Value} {base : Heap}
theorem law_ok (T : Tx K mg) {fd : FuncData} (F : Fun K "law" "law" s_law (He.ga K "law") fd) : FnG P w K mg base 5 (He.ga K "law") fd ["_law_script"] (spLaw K) := by
  have c__law_cell : Cal P w K mg base 1 "_law_cell" (spCell K) := Cal.of T.g__law_cell T.F__law_cell (fun F => F.binds (ps := ["_law_script", "_law_k"]) fun _ _ _ _ _ _ us hl => match us, hl with | [_, _], _ => rfl) (ok_cell T)
  have c__law_box : Cal P w K mg base 1 "_law_box" spBox := Cal.of T.g__law_box T.F__law_box (fun F => F.binds (ps := ["_law_cell_here"]) fun _ _ _ _ _ _ us hl => match us, hl with | [_], _ => rfl) (ok_box T)
  have c__law_take : Cal P w K mg base 1 "_law_take" spTake := Cal.of T.g__law_take T.F__law_take (fun F => F.binds (ps := ["_law_box_here", "_law_many"]) fun _ _ _ _ _ _ us hl => match us, hl with | [_, _], _ => rfl) (ok_take T)
  have c__law_kinds : Cal P w K mg base 1 "_law_kinds" (spKinds K) := Cal.of T.g__law_kinds T.F__law_kinds (fun F => F.binds (ps := ["_law_e"]) fun _ _ _ _ _ _ us hl => match us, hl with | [_], _ => rfl) (ok_kinds T)
  have c__law_field : Cal P w K mg base 1 "_law_field" (spField K) := Cal.of T.g__law_field T.F__law_field (fun F => F.binds (ps := ["_law_e", "_law_name"]) fun _ _ _ _ _ _ us hl => match us, hl with | [_, _], _ => rfl) (ok_field T)
  have c__law_number : Cal P w K mg base 2 "_law_number" (spNumber K) := Cal.of T.g__law_number T.F__law_number (fun F => F.binds (ps := ["_law_e"]) fun _ _ _ _ _ _ us hl => match us, hl with | [_], _ => rfl) fun F => ok_number T F c__law_kinds
  have c__law_apart : Cal P w K mg base 2 "_law_apart" (spApart K) := Cal.of T.g__law_apart T.F__law_apart (fun F => F.binds (ps := ["_law_e", "_law_at"]) fun _ _ _ _ _ _ us hl => match us, hl with | [_, _], _ => rfl) fun F => ok_apart T F c__law_kinds
  have c__law_text : Cal P w K mg base 2 "_law_text" spText := Cal.of T.g__law_text T.F__law_text (fun F => F.binds (ps := ["_law_box_here"]) fun _ _ _ _ _ _ us hl => match us, hl with | [_], _ => rfl) fun F => ok_text T F c__law_take
  have c__law_thing : Cal P w K mg base 2 "_law_thing" spThing := Cal.of T.g__law_thing T.F__law_thing (fun F => F.binds (ps := ["_law_box_here"]) fun _ _ _ _ _ _ us hl => match us, hl with | [_], _ => rfl) fun F => ok_thing T F c__law_take
  have c__law_made : Cal P w K mg base 3 "_law_made" (spMade K) := Cal.of T.g__law_made T.F__law_made (fun F => F.binds (ps := ["_law_thing_here", "_law_more"]) fun _ _ _ _ _ _ us hl => match us, hl with | [_, _], _ => rfl) (ok_made T)
  have c__law_plain_right : Cal P w K mg base 3 "_law_plain_right" spPlain := Cal.of T.g__law_plain_right T.F__law_plain_right (fun F => F.binds (ps := ["_law_box_here"]) fun _ _ _ _ _ _ us hl => match us, hl with | [_], _ => rfl) fun F => ok_plain T F c__law_text c__law_number
  have c__law_bare_right : Cal P w K mg base 4 "_law_bare_right" spBare := Cal.of T.g__law_bare_right T.F__law_bare_right (fun F => F.binds (ps := ["_law_box_here"]) fun _ _ _ _ _ _ us hl => match us, hl with | [_], _ => rfl) fun F => ok_bare T F c__law_take c__law_text c__law_number c__law_apart c__law_field c__law_made
  exact ok_law T F c__law_cell c__law_box c__law_thing c__law_plain_right c__law_bare_right c__law_number c__law_apart c__law_field c__law_made
end

end Lw
open PySem PySem.W PySem.Calls PyProof.Rows
set_option maxHeartbeats 0 in
theorem PySem.Challenge.cw_framerooms_k03_refusals_apart_holds : PySem.Challenge.rw_framerooms_k03_refusals_apart.Holds := by
  w_on; o_law
  refine HandSHeadRun.head_any (r := OpenLaw.row PySem.Challenge.rw_framerooms_k03_refusals_apart) (q := view (OpenLaw.row PySem.Challenge.rw_framerooms_k03_refusals_apart).prog [42]) (H := Lw.hk) (ob := Lw.ob) (M := 8000) (loose := Lw.names0 ++ Lw.names1) (d := HandSHeadRun.topDef (OpenLaw.row PySem.Challenge.rw_framerooms_k03_refusals_apart).prog 42) (kwd := []) Lw.ob_eq
    (by kernel_rfl) (fun s => by kernel_rfl) Lw.run (by kernel_rfl) (by kernel_rfl) (by kernel_rfl) (by rfl) (by first | assumption | decide +kernel) (by decide +kernel) ⟨rfl, rfl, rfl, rfl, rfl, by decide +kernel⟩ ?hw ?hc
  case hw => w_witness2
  case hc =>
    refine FG.walk_G (l := PySem.Challenge.rw_framerooms_k03_refusals_apart) (n := 63) (k := 5) (x := "_law_script") rfl (by decide) (by kernel_rfl) ⟨rfl, by decide, by decide⟩ ?F
    intro w mg fa h Y G hmg0
    obtain ⟨K, KX, c⟩ := Y
    have hmg : mg ("law" : PySem.Str) = some (.ref fa) := by
      have e : (HandSHeadRun.topDef (OpenLaw.row PySem.Challenge.rw_framerooms_k03_refusals_apart).prog 42).name = ("law" : PySem.Str) := by kernel_rfl
      rw [← e]
      exact hmg0
    have T : Lw.Tx K mg := Lw.tx_of KX G c.1 c.2
    have e := hmg.symm.trans T.g_law
    cases e
    obtain ⟨fd, F⟩ := T.F_law
    have b := F.binds (ps := ["_law_script"]) fun _ _ _ _ _ _ us hl => match us, hl with | [_], _ => rfl
    refine ⟨K, fd, Lw.spLaw K, KX, fun s u => ?_, fun H a ns hl bits hO hS => ⟨a, ns, rfl, hl, Lw.Scr.of hO hS, fun _ => rfl⟩, fun base _ _ => Lw.law_ok T F⟩
    have F2 := F
    obtain ⟨oc, od, kV, doc, pm, an, cdv, ct, osl, rfl, lk, hcd⟩ := F2.ex
    exact BindsTo.of_eq rfl
