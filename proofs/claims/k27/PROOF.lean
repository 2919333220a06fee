import PyProof.Rows.All
import Wide.All
import OpenK.AllK
import Wide.FinOn
import HandS.ForMost
import HandS.Exc
import HandS.ExcOwn
import HandS.ExcInit
import HandS.ExcIs
import HandS.ExcField
import KE.KExcIs
import HandS.TryOnly
import HandS.TryMany
import HandS.WordsExc
import HandS.Defaults
import HandS.Flow
import HandS.Style
import HandS.More
import HandS.Wide
import HandS.Walk
import HandS.Conv
import PyProof.DictMoreH
import HandS.DictTup
import HandS.DictSubView
import HandS.HotCalls
import KE.DataFind
import KE.KDictCopyH
import HandS.Zip
import HandS.ListItems
import HandS.Rev
import HandS.IsInst
import HandS.EndBits
import HandS.Head0
import HandS.Head1
import HandS.Head2
import HandS.HeadEnd
import HandS.HeadHook1
import HandS.HeadHook2
import HandS.HeadHook3
import HandS.HeadHook4
import HandS.Deep
import PySem.Challenge.RW_framerooms_k27_kept_and_why
import KE.KDictItemsList
set_option Elab.async false
set_option linter.all false
set_option maxRecDepth 100000
set_option maxHeartbeats 4000000
/-! GBase: calls whose frames know that no repr is running (guards), for defs that may raise; repr of data. Own layer over HandS. -/
namespace FG
open PySem PySem.Spec L2
open PyProof.Rows hiding St

/-- room for calls, and no guard stands around -/
structure RG (k : Nat) (A : Around) : Prop where
  r : Room k A
  g : A.guards = some []
theorem RG.mono {j k : Nat} {A : Around} (h : RG k A) (q : j ≤ k := by decide) : RG j A := ⟨h.r.mono q, h.g⟩
theorem RG.hu {k : Nat} {A : Around} (h : RG k A) : A.units + 1 < cLine := hu_of h.r
theorem RG.u65 {k : Nat} {A : Around} (h : RG k A) : A.units + 65 < cLine := by have := h.r.un; omega

/-- a def's promise where the guards are known -/
structure FnG (P : Program) (w : World) (K : PySem.W.Frag) (mg : Str → Option Value) (base : Heap) (k : Nat) (f : Addr) (fd : FuncData) (ps : List Str) (sp : Sp) : Prop where
  nargs : ∀ vs H Q E, sp vs H Q E → vs.length = ps.length
  goes : ∀ (A : Around) (outer : List Env) (s : Shared) (H : Hp) (ar : Args) (us : List Value) (vs : List V) (Q : VK) (E : XK),
    RG k A → Env0 P w K mg base A outer s H → BindsTo s fd ar (ps.zip us) → Vals vs us → sp vs H Q E → codeAny (model P w) A (.call (.ref f) ar) (CR (L2.CX P w) outer P w H s Q E) s
theorem FnG.weaker {P : Program} {w : World} {K : PySem.W.Frag} {mg : Str → Option Value} {base : Heap} {k : Nat} {f : Addr} {fd : FuncData} {ps : List Str} {sp sp' : Sp} (F : FnG P w K mg base k f fd ps sp)
    (h : ∀ vs H Q E, sp' vs H Q E → sp vs H Q E) : FnG P w K mg base k f fd ps sp' :=
  ⟨fun vs H Q E z => F.nargs vs H Q E (h _ _ _ _ z), fun A outer s H ar us vs Q E a b c d z => F.goes A outer s H ar us vs Q E a b c d (h _ _ _ _ z)⟩

section
variable {P : Program} {w : World} {K : PySem.W.Frag} {mg : Str → Option Value} {base : Heap}
/-- a def of the text, by its body -/
theorem FnG.of {x qual : Str} {st : Stmt} {f : Addr} {fd : FuncData} {N ps : List Str} {k : Nat} {sp : Sp} (F : Fun K x qual st f fd) (S : FnScope N ps (defScope st)) (hn : ∀ vs H Q E, sp vs H Q E → vs.length = ps.length)
    (hb : ∀ (cdv : Value) (A : Around) (outer : List Env) (s : Shared) (H : Hp) (vs : List V) (Q : VK) (E : XK), RG k (A.deeper (envOfC qual (defScope st) s.heap.objs.size f cdv)) → sp vs H Q E →
      ∃ t, PSs (cxOf (L2.CX P w) P w K mg base N qual (defScope st) f cdv A outer s H E) (defBody st) t ∧ t { nx := fun _ H' => Q .non H', rt := Q } (start N vs) H) : FnG P w K mg base (k + 1) f fd ps sp := by
  obtain ⟨oc, od, kV, doc, pm, an, cdv, ct, osl, rfl, lk, hcd⟩ := F.ex
  refine ⟨hn, fun A outer s H ar us vs Q E hg env0 bnd rel hsp => ?_⟩
  have len := hn _ _ _ _ hsp
  have inK : K.In s.heap := env0.mod.kin.keeps fun b o z => (env0.bs b o z).1
  have nol : s.heap.NoLimit := env0.mod.nolimit.keeps fun b o z => (env0.bs b o z).1
  have hk : ∀ y ∈ ps.zip us, (defScope st).names.lookup y.1 = some .local ∨ ((defScope st).names.lookup y.1 = some .cell ∧ ((cellsFrom (s.heap.objs.size + 1) (defScope st).names []).lookup y.1).isSome = true) := by
    rintro ⟨n, v⟩ hy
    exact (S.par n (List.of_mem_zip hy).1).elim .inl fun q => .inr ⟨q, PySem.W.cellsFrom_some _ _ _ (.inl q)⟩
  refine codeAny_call_function hg.r.depth (inK _ _ lk) rfl S.co S.gen rfl (PySem.W.codeRec_of inK hcd) (bnd _ _ _ _ ?_)
  refine wpAny_newFunctionEnv_cells S.kind hk fun env ee s1 inc => ?_
  subst ee
  refine ⟨nol.keeps inc.toInCall.keep, codeAny_func ?_⟩
  obtain ⟨t, ht, hq⟩ := hb cdv A outer s H vs Q E ⟨hg.r.deeper _, hg.g⟩ hsp
  have I0 : Inv (cxOf (L2.CX P w) P w K mg base N qual (defScope st) f cdv A outer s H E) [] (start N vs) H s1 := inv_start S hg.r.hd env0 len rel inc
  refine wpAny_mono (ht.run [] s1 (start N vs) H _ I0 hq) (fun fl s2 hs => ?_) fun _ _ hs => hs
  have fin : ∀ {σ2 : St} {H2 : Hp} {v : V} {u : Value}, Inv (cxOf (L2.CX P w) P w K mg base N qual (defScope st) f cdv A outer s H E) [] σ2 H2 s2 → RelV v u → Q v H2 → CE outer P w H s Q u s2 := by
    intro σ2 H2 v u J rv q
    exact ⟨v, H2, J.os, J.bare, J.base, J.hok, rv, q⟩
  match fl, hs with
  | .ret u, ⟨v, σ2, H2, J, rv, q⟩ => exact fin J rv q
  | .next, ⟨σ2, H2, J, q⟩ => exact fin (v := V.non) (u := Value.none) J rfl q
  | .brk, ⟨_, _, _, q⟩ => exact q.elim
  | .cont, ⟨_, _, _, q⟩ => exact q.elim
end

/-! ### defs, methods, classes as their callers see them -/
/-- the module's def x keeps sp -/
structure Cal (P : Program) (w : World) (K : PySem.W.Frag) (mg : Str → Option Value) (base : Heap) (k : Nat) (x : Str) (sp : Sp) : Prop where
  ex : ∃ (f : Addr) (fd : FuncData) (ps : List Str), FnG P w K mg base k f fd ps sp ∧ mg x = some (.ref f) ∧ PySem.W.keepIn K (.ref f) = true ∧ Binds K fd ps []
/-- the method m of the class at C keeps sp -/
structure Met (P : Program) (w : World) (K : PySem.W.Frag) (mg : Str → Option Value) (base : Heap) (k : Nat) (C : Addr) (m : Str) (sp : Sp) : Prop where
  ex : ∃ (f : Addr) (fd : FuncData) (ps : List Str), Cls K C ∧ Meth K C m f ∧ FnG P w K mg base k f fd ps sp ∧ Binds K fd ps []
/-- the class x, at C, is made by an __init__ that keeps sp -/
structure Mak (P : Program) (w : World) (K : PySem.W.Frag) (mg : Str → Option Value) (base : Heap) (k : Nat) (x : Str) (C : Addr) (sp : Sp) : Prop where
  ex : ∃ (f : Addr) (fd : FuncData) (ps : List Str), Mk K C f ∧ FnG P w K mg base k f fd ps sp ∧ mg x = some (.ref C) ∧ Binds K fd ps []

theorem make_guards {A : Around} {C : Addr} {us : List Value} {kw : List (Str × Value)} : (A.under (.builtin "type.__call__" ⟨.ref C :: us, kw⟩)).guards = A.guards := by
  first | rfl | simp [Around.under, Code.guards, Code.isGuard, guardIds, pushGuards]

/-- a call's reading: the arguments, then the promise; W: what is wanted of an exception -/
def tG (sp : Sp) (W : WX) (t : TA) : TE := fun σ H Q => t σ H fun vs H1 => sp vs H1 Q (fun cls d H2 => W cls d σ H2)
/-- o.m(..) -/
def tGm (C : Addr) (m : Str) (sp : Sp) (W : WX) (ta : TE) (t : TA) : TE := fun σ H Q => ta σ H fun x H1 => ∃ a dx fs, x = .ref a ∧ H1 a = some (.ins C dx fs) ∧ fs.lookup m = none ∧
  t σ H1 fun vs H2 => sp (x :: vs) H2 Q (fun cls d H3 => W cls d σ H3)
/-- C(..) -/
def tGk (C : Addr) (sp : Sp) (W : WX) (t : TA) : TE := fun σ H Q => t σ H fun vs H1 => ∀ x dx, H1 x = none → H1 dx = none → dx ≠ x →
  sp (.ref x :: vs) (upd (upd H1 dx (.own x)) x (.ins C dx [])) (fun v H2 => v = .non ∧ Q (.ref x) H2) (fun cls d H2 => W cls d σ H2)

section
variable {X : Cx} {k : Nat} {f C : Addr} {fd : FuncData} {ps : List Str} {sp : Sp} {W : WX} {x m : Str} {p pos apos : Pos} {e o : Expr} {es : List Expr} {ta : TE} {t : TA}

theorem runs {pins : List (Addr × Obj)} {σ : St} {H : Hp} {s : Shared} {Q : VK} {us : List Value} {vs : List V} (F : FnG X.prog X.w X.K X.mg X.base k f fd ps sp) (hr : RG k X.A) (hb : Binds X.K fd ps []) (tk : Takes X W)
    (I : Inv X pins σ H s) (r : Vals vs us) (h : sp vs H Q (fun cls d H2 => W cls d σ H2)) : wpAny (model X.prog X.w) X.A (call (.ref f) us) (EP X pins σ Q) X.xe s := by
  have ln : us.length = ps.length := r.length.symm.trans (F.nargs _ _ _ _ h)
  have b := hb s us I.kIn (by simpa using ln)
  rw [List.append_nil] at b
  refine wpAny_call (codeAny_mono (F.goes X.A X.stack s H ⟨us, []⟩ us vs Q _ hr I.env0 b r h) fun q s2 hq => ?_)
  match q, hq with
  | .error e, hq => exact passAt tk σ pins H s e s2 I hq
  | .ok (.ret u), hq => exact I.after hq
  | .ok .next, hq => exact hq.elim
  | .ok .brk, hq => exact hq.elim
  | .ok .cont, hq => exact hq.elim

theorem gc (c : Cal X.prog X.w X.K X.mg X.base k x sp) (hr : RG k X.A) (tk : Takes X W) (ha : PA X (e :: es) t) (hg : Gl X x := by rfl) (hdb : (x == ("__debug__" : Str)) = false := by decide)
    (he : starEach (e :: es) X.env = (false, eval e X.env) :: starEach es X.env := by rfl) (hpl : (backTo pos (starEach es X.env)).any (·.1) = false := by rfl) : PE X (.Call (.Name x p) (e :: es) [] pos) (tG sp W t) := by
  obtain ⟨f, fd, ps, F, hm, hk, hb⟩ := c.ex
  refine ⟨fun pins s σ H Q I h => wpAny_Call_Name_kw (ld_glob I hg hm ?_ hdb)⟩
  exact PySem.W.callWith_K (h₀ := X.base) I.ok.mod.kin hk (thn (ha.run pos pins s σ H _ I h) fun us s1 ⟨vs, H1, I1, r, q⟩ => ⟨I1.kIn, runs F hr hb tk I1 r q⟩) he hpl
theorem gc0 (c : Cal X.prog X.w X.K X.mg X.base k x sp) (hr : RG k X.A) (tk : Takes X W) (hg : Gl X x := by rfl) (hdb : (x == ("__debug__" : Str)) = false := by decide) : PE X (.Call (.Name x p) [] [] pos) (tG sp W tNil) := by
  obtain ⟨f, fd, ps, F, hm, hk, hb⟩ := c.ex
  exact ⟨fun pins s σ H Q I h => wpAny_Call_Name_kw (ld_glob I hg hm (PySem.W.callWith_K0 I.kIn hk (runs (us := []) F hr hb tk I .nil h)) hdb)⟩

theorem gm {pl : Sem Bool} (c : Met X.prog X.w X.K X.mg X.base k C m sp) (hr : RG k X.A) (tk : Takes X W) (he : PE X o ta) (ha : PA X (e :: es) t)
    (hst : starEach (e :: es) X.env = (false, eval e X.env) :: starEach es X.env := by rfl) (hpl : (backTo pos (starEach es X.env)).any (·.1) = false := by rfl)
    (ht : eval (.Call (.Attribute o m apos) (e :: es) [] pos) X.env = (do let ov ← eval o X.env; standAt apos.atName; let (f, first) ← holding [ov] (getMethod ov m pl); callWith pos f first (backTo pos (starEach (e :: es) X.env)) (backToKw pos (keywordEach [] X.env))) := by rfl) :
    PE X (.Call (.Attribute o m apos) (e :: es) [] pos) (tGm C m sp W ta t) := by
  obtain ⟨f, fd, ps, cl, hm, F, hb⟩ := c.ex
  refine ⟨fun pins s σ H Q I h => PySem.W.methodCall_KW (pl := pl) (thn (he.run pins s σ H _ I h) fun u s1 ⟨x, H1, I1, rx, a, dx, fs, ex, ea, l, q⟩ => ?_) ht⟩
  subst ex
  obtain rfl : u = Value.ref a := rx
  refine getmeth_ok I1 ea cl hm l (PySem.W.callWith_K (first := [.ref a]) (h₀ := X.base) I.ok.mod.kin hm.kp (thn (ha.run pos pins s1 σ H1 _ I1 q) fun us s2 ⟨vs, H2, I2, r, q2⟩ => ⟨I2.kIn, ?_⟩) hst hpl)
  exact runs (us := .ref a :: us) (vs := .ref a :: vs) F hr hb tk I2 (.cons rfl r) q2
theorem gm0 {pl : Sem Bool} (c : Met X.prog X.w X.K X.mg X.base k C m sp) (hr : RG k X.A) (tk : Takes X W) (he : PE X o ta)
    (ht : eval (.Call (.Attribute o m apos) [] [] pos) X.env = (do let ov ← eval o X.env; standAt apos.atName; let (f, first) ← holding [ov] (getMethod ov m pl); callWith pos f first (backTo pos (starEach [] X.env)) (backToKw pos (keywordEach [] X.env))) := by rfl) :
    PE X (.Call (.Attribute o m apos) [] [] pos) (tGm C m sp W ta tNil) := by
  obtain ⟨f, fd, ps, cl, hm, F, hb⟩ := c.ex
  refine ⟨fun pins s σ H Q I h => PySem.W.methodCall_KW (pl := pl) (thn (he.run pins s σ H _ I h) fun u s1 ⟨x, H1, I1, rx, a, dx, fs, ex, ea, l, q⟩ => ?_) ht⟩
  subst ex
  obtain rfl : u = Value.ref a := rx
  exact getmeth_ok I1 ea cl hm l (PySem.W.callWith_K0 (first := [.ref a]) I1.kIn hm.kp (runs (us := [.ref a]) (vs := [.ref a]) F hr hb tk I1 (.cons rfl .nil) q))

theorem makes {pins : List (Addr × Obj)} {σ : St} {H : Hp} {s : Shared} {Q : VK} {us : List Value} {vs : List V} (M : Mk X.K C f) (F : FnG X.prog X.w X.K X.mg X.base k f fd ps sp) (hr : RG (k + 1) X.A) (hb : Binds X.K fd ps []) (tk : Takes X W)
    (I : Inv X pins σ H s) (r : Vals vs us) (h : ∀ x dx, H x = none → H dx = none → dx ≠ x → sp (.ref x :: vs) (upd (upd H dx (.own x)) x (.ins C dx [])) (fun v H2 => v = .non ∧ Q (.ref x) H2) (fun cls d H2 => W cls d σ H2)) :
    wpAny (model X.prog X.w) X.A (call (.ref C) us) (EP X pins σ Q) X.xe s := by
  have hq := h (s.heap.objs.size + 1) s.heap.objs.size (I.hok.fresh (Nat.le_succ _)) (I.hok.fresh (Nat.le_refl _)) (Nat.ne_of_lt (Nat.lt_succ_self _))
  have I2 := Inv.made (C := C) I
  have r2 : Vals (V.ref (s.heap.objs.size + 1) :: vs) (Value.ref (s.heap.objs.size + 1) :: us) := .cons rfl r
  have ln : (Value.ref (s.heap.objs.size + 1) :: us).length = ps.length := r2.length.symm.trans (F.nargs _ _ _ _ hq)
  have b := hb _ (Value.ref (s.heap.objs.size + 1) :: us) I2.kIn (by simpa using ln)
  rw [List.append_nil] at b
  refine wpAny_call (make_map (f := f) I.kIn M.makes M.init (beq_iff_eq.mp M.fn) (codeAny_mono (F.goes _ X.stack _ _ ⟨Value.ref (s.heap.objs.size + 1) :: us, []⟩ (Value.ref (s.heap.objs.size + 1) :: us) _ _ _ ⟨hr.r.make C us [], make_guards.trans hr.g⟩ (I2.env0.make C us []) b r2 hq) fun q s2 hq2 => ?_))
  match q, hq2 with
  | .error e, hq2 => exact passAt tk σ pins _ _ e s2 I2 hq2
  | .ok (.ret u), hq2 =>
    obtain ⟨v, H3, I3, rv, ev, q3⟩ := I2.after hq2
    subst ev
    exact ⟨rv, ⟨V.ref (s.heap.objs.size + 1), H3, I3, rfl, q3⟩⟩
  | .ok .next, hq2 => exact hq2.elim
  | .ok .brk, hq2 => exact hq2.elim
  | .ok .cont, hq2 => exact hq2.elim
theorem gk (c : Mak X.prog X.w X.K X.mg X.base k x C sp) (hr : RG (k + 1) X.A) (tk : Takes X W) (ha : PA X (e :: es) t) (hg : Gl X x := by rfl) (hdb : (x == ("__debug__" : Str)) = false := by decide)
    (he : starEach (e :: es) X.env = (false, eval e X.env) :: starEach es X.env := by rfl) (hpl : (backTo pos (starEach es X.env)).any (·.1) = false := by rfl) : PE X (.Call (.Name x p) (e :: es) [] pos) (tGk C sp W t) := by
  obtain ⟨f, fd, ps, M, F, hm, hb⟩ := c.ex
  refine ⟨fun pins s σ H Q I h => wpAny_Call_Name_kw (ld_glob I hg hm ?_ hdb)⟩
  exact PySem.W.callWith_K (h₀ := X.base) I.ok.mod.kin M.kp (thn (ha.run pos pins s σ H _ I h) fun us s1 ⟨vs, H1, I1, r, q⟩ => ⟨I1.kIn, makes M F hr hb tk I1 r q⟩) he hpl
theorem gk0 (c : Mak X.prog X.w X.K X.mg X.base k x C sp) (hr : RG (k + 1) X.A) (tk : Takes X W) (hg : Gl X x := by rfl) (hdb : (x == ("__debug__" : Str)) = false := by decide) : PE X (.Call (.Name x p) [] [] pos) (tGk C sp W tNil) := by
  obtain ⟨f, fd, ps, M, F, hm, hb⟩ := c.ex
  exact ⟨fun pins s σ H Q I h => wpAny_Call_Name_kw (ld_glob I hg hm (PySem.W.callWith_K0 I.kIn M.kp (makes (us := []) M F hr hb tk I .nil h)) hdb)⟩
end

/-! ### repr -/
section
variable {X : Cx}
/-! data in which an empty dict may lie, all of it tracked -/
mutual
inductive DpE (H : Hp) : V → PyData → Prop
  | non : DpE H .non .none
  | bl (b : Bool) : DpE H (.bl b) (.bool b)
  | int (i : Int) : DpE H (.int i) (.int i)
  | str (x : Str) : DpE H (.str x) (.str x)
  | emp {a : Addr} : H a = some (.dK []) → DpE H (.ref a) (.dict [])
  | lst {a : Addr} {xs : List V} {ds : List PyData} : H a = some (.lst xs) → a ≠ sysModules → DpEs H xs ds → DpE H (.ref a) (.list ds)
  | tup {a : Addr} {xs : List V} {ds : List PyData} : H a = some (.tup xs) → DpEs H xs ds → DpE H (.ref a) (.tuple ds)
inductive DpEs (H : Hp) : List V → List PyData → Prop
  | nil : DpEs H [] []
  | cons {v : V} {vs : List V} {d : PyData} {ds : List PyData} : DpE H v d → DpEs H vs ds → DpEs H (v :: vs) (d :: ds)
end
mutual
theorem DpE.reads {pins : List (Addr × Obj)} {σ : St} {H : Hp} {s : Shared} (I : Inv X pins σ H s) : ∀ (d : PyData) (v : V) (u : Value), DpE H v d → RelV v u → ∃ as, Reads s.heap u d as ∧ sysModules ∉ as
  | .none, _, _, h, r => by
    cases h
    cases r
    exact ⟨_, Reads.none, by simp⟩
  | .bool b, _, _, h, r => by
    cases h
    cases r
    exact ⟨_, Reads.bool b, by simp⟩
  | .int i, _, _, h, r => by
    cases h
    obtain ⟨t, rfl⟩ := r
    exact ⟨_, Reads.int i t, by simp⟩
  | .str x, _, _, h, r => by
    cases h
    obtain ⟨t, rfl⟩ := r
    exact ⟨_, Reads.str x t, by simp⟩
  | .list ds, _, _, h, r => by
    cases h with
    | lst hs hns ha =>
      cases r
      obtain ⟨its, rv, ⟨o, n, ho, hc, _, hd⟩, _⟩ := I.list (SqL.of (K := X.K) hs)
      obtain ⟨as, hr, hn⟩ := DpE.readsAll I ds _ its ha rv
      exact ⟨_, Reads.list ho hc hd hr, by
        rw [List.mem_cons, not_or]
        exact ⟨hns.symm, hn⟩⟩
  | .tuple ds, _, _, h, r => by
    cases h with
    | tup hs ha =>
      cases r
      obtain ⟨its, rv, ⟨o, ho, hc, n, hd⟩, _⟩ := I.tuple (SqT.of (K := X.K) hs)
      obtain ⟨as, hr, hn⟩ := DpE.readsAll I ds _ its ha rv
      exact ⟨_, Reads.tuple ho hc hd hr, hn⟩
  | .dict kvs, _, _, h, r => by
    cases h with
    | emp hs =>
      cases r
      obtain ⟨z, hm, vs, rel, dd⟩ := dk_of I.hok hs
      cases rel
      obtain ⟨o, es, ep, ho, hx, hdt, he, hp, _⟩ := dd
      have e0 : es.toList = [] := by
        cases e : es.toList with
        | nil => rfl
        | cons x y => rw [e] at hp; cases hp
      refine ⟨_, Reads.dict (kvs := []) (as := []) (bs := []) ho hx.1 hdt (by rw [e0]; exact .nil) (by rw [e0]; exact .nil), ?_⟩
      simp only [List.append_nil, List.mem_cons, List.not_mem_nil, or_false]
      exact (beq_eq_false_iff_ne.mp hm).symm
theorem DpE.readsAll {pins : List (Addr × Obj)} {σ : St} {H : Hp} {s : Shared} (I : Inv X pins σ H s) : ∀ (ds : List PyData) (vs : List V) (us : List Value), DpEs H vs ds → Vals vs us → ∃ as, ReadsAll s.heap us ds as ∧ sysModules ∉ as
  | [], _, _, h, r => by
    cases h
    cases r
    exact ⟨_, ReadsAll.nil, by simp⟩
  | d :: ds, _, _, h, r => by
    cases h with
    | cons h1 h2 =>
      cases r with
      | cons r1 r2 =>
        obtain ⟨as, q1, n1⟩ := DpE.reads I d _ _ h1 r1
        obtain ⟨bs, q2, n2⟩ := DpE.readsAll I ds _ _ h2 r2
        exact ⟨_, ReadsAll.cons q1 q2, by rw [List.mem_append, not_or]; exact ⟨n1, n2⟩⟩
end
/-- repr(v), v data: its text -/
structure Shw (K : PySem.W.Frag) (H : Hp) (v : V) (d : PyData) : Prop where
  dp : Dp K H v d ∨ DpE H v d
  ok : d.showable = true
  len : d.shown.length ≤ sizeLine
  dep : d.depth ≤ 60
def rRepr (K : PySem.W.Frag) (vs : List V) (H : Hp) (Q : VK) : Prop := ∃ v d, vs = [v] ∧ Shw K H v d ∧ Q (.str d.shown) H
mutual
theorem dp_plain {K : PySem.W.Frag} {H : Hp} : ∀ (d : PyData) (v : V), Dp K H v d → d.hasDict = false
  | .none, _, _ => by simp only [PyData.hasDict]
  | .bool _, _, _ => by simp only [PyData.hasDict]
  | .int _, _, _ => by simp only [PyData.hasDict]
  | .str _, _, _ => by simp only [PyData.hasDict]
  | .list ds, _, h => by
    cases h with
    | lst _ a => simp only [PyData.hasDict]; exact dp_plains ds _ a
  | .tuple ds, _, h => by
    cases h with
    | tup _ a => simp only [PyData.hasDict]; exact dp_plains ds _ a
  | .dict _, _, h => by cases h
theorem dp_plains {K : PySem.W.Frag} {H : Hp} : ∀ (ds : List PyData) (vs : List V), DpAll K H vs ds → PyData.hasDictAll ds = false
  | [], _, _ => by simp only [PyData.hasDictAll]
  | d :: ds, _, h => by
    cases h with
    | cons a b => simp only [PyData.hasDictAll, dp_plain d _ a, dp_plains ds _ b, Bool.or_self]
end
theorem call_repr {k : Nat} (hr : RG k X.A) : CallR X (.builtin "repr") (rRepr X.K) := by
  intro pins s σ H xs us Q I r h
  obtain ⟨v, d, rfl, ⟨hd, hs, hl, hdp⟩, q⟩ := h
  obtain ⟨u, rfl, ru⟩ := vals1 r
  have un := hr.r.units
  rcases hd with hd | hd
  rotate_left
  · cases hd with
    | non => cases ru; exact PySem.P.repr_of_none ⟨.str _, H, I.tok _, ⟨_, rfl⟩, by simpa only [PyData.shown] using q⟩
    | bl b => cases ru; exact PySem.P.repr_of_bool ⟨.str _, H, I.tok _, ⟨_, rfl⟩, by simpa only [PyData.shown] using q⟩
    | int i =>
      obtain ⟨t, rfl⟩ := ru
      exact PySem.P.repr_of_int (by simpa only [PyData.showable, decide_eq_true_eq] using hs) ⟨.str _, H, I.tok _, ⟨_, rfl⟩, by simpa only [PyData.shown] using q⟩
    | str x =>
      obtain ⟨t, rfl⟩ := ru
      exact PySem.P.repr_of_str ⟨.str _, H, I.tok _, ⟨_, rfl⟩, by simpa only [PyData.shown] using q⟩ (by simpa only [PyData.shown] using hl)
    | emp a =>
      obtain rfl := ru
      obtain ⟨as, rd, nas⟩ := DpE.reads I _ _ _ (DpE.emp a) rfl
      exact repr_of_reads' rd hs (fun _ => nas) hr.g (by omega) (fun _ _ z => z) (fun h' u tk kp => ⟨.str _, H, I.kept kp, ⟨_, rfl⟩, q⟩) hl
    | lst a n b =>
      obtain rfl := ru
      obtain ⟨as, rd, nas⟩ := DpE.reads I _ _ _ (DpE.lst a n b) rfl
      exact repr_of_reads' rd hs (fun _ => nas) hr.g (by omega) (fun _ _ z => z) (fun h' u tk kp => ⟨.str _, H, I.kept kp, ⟨_, rfl⟩, q⟩) hl
    | tup a b =>
      obtain rfl := ru
      obtain ⟨as, rd, nas⟩ := DpE.reads I _ _ _ (DpE.tup a b) rfl
      exact repr_of_reads' rd hs (fun _ => nas) hr.g (by omega) (fun _ _ z => z) (fun h' u tk kp => ⟨.str _, H, I.kept kp, ⟨_, rfl⟩, q⟩) hl
  cases hd with
  | non => cases ru; exact PySem.P.repr_of_none ⟨.str _, H, I.tok _, ⟨_, rfl⟩, by simpa only [PyData.shown] using q⟩
  | bl b => cases ru; exact PySem.P.repr_of_bool ⟨.str _, H, I.tok _, ⟨_, rfl⟩, by simpa only [PyData.shown] using q⟩
  | int i =>
    obtain ⟨t, rfl⟩ := ru
    exact PySem.P.repr_of_int (by simpa only [PyData.showable, decide_eq_true_eq] using hs) ⟨.str _, H, I.tok _, ⟨_, rfl⟩, by simpa only [PyData.shown] using q⟩
  | str x =>
    obtain ⟨t, rfl⟩ := ru
    exact PySem.P.repr_of_str ⟨.str _, H, I.tok _, ⟨_, rfl⟩, by simpa only [PyData.shown] using q⟩ (by simpa only [PyData.shown] using hl)
  | lst a b =>
    obtain rfl := ru
    have hd2 := Dp.lst a b
    obtain ⟨as, rd⟩ := Dp.reads I _ _ _ hd2 rfl
    exact repr_of_reads' rd hs (PyData.noDict_hsm (dp_plain _ _ hd2)) hr.g (by omega) (fun _ _ z => z) (fun h' u tk kp => ⟨.str _, H, I.kept kp, ⟨_, rfl⟩, q⟩) hl
  | tup a b =>
    obtain rfl := ru
    have hd2 := Dp.tup a b
    obtain ⟨as, rd⟩ := Dp.reads I _ _ _ hd2 rfl
    exact repr_of_reads' rd hs (PyData.noDict_hsm (dp_plain _ _ hd2)) hr.g (by omega) (fun _ _ z => z) (fun h' u tk kp => ⟨.str _, H, I.kept kp, ⟨_, rfl⟩, q⟩) hl
theorem pe_repr {k : Nat} {x : Str} {p pos : Pos} {e : Expr} {te : TE} (hr : RG k X.A) (hm : X.mg "repr" = none) (he : PE X e te) (hg : Gl X "repr" := by rfl)
    (hs : starEach (e :: []) X.env = (false, eval e X.env) :: starEach [] X.env := by rfl) (hpl : (backTo pos (starEach [] X.env)).any (·.1) = false := by rfl) :
    PE X (.Call (.Name "repr" p) [e] [] pos) (tCB (rRepr X.K) (tCons te tNil)) := pe_callB (call_repr hr) hg hm boot_repr (pa_cons he pa_nil hs) (by decide) (by decide) hs hpl
end
end FG

/-! GEnd: the end of a law whose def keeps its promise where the guards are known. -/
namespace FG
open PySem PySem.Spec L2
open PyProof.Rows hiding St

theorem law_runs {P : Program} {w : World} {K : PySem.W.Frag} {mg mb : Str → Option Value} {k : Nat} {fa a : Addr} {fd : FuncData} {x : Str} {sp : Sp} {s : Shared} {vs : List Value} {ns : List Int}
    (inK : K.In s.heap) (gl : s.heap.Ns mainGlobals mg) (bl : s.heap.Ns builtinsNs mb) (bb : ∀ y : Str, y ≠ "__name__" → mb y = bootBuiltins y) (nol : s.heap.NoLimit) (gens : s.gens = #[])
    (la : s.heap.get? a = some { cls := .type "list", data := .seq vs.toArray }) (li : IntsAre vs ns) (ln : ns.length ≤ sizeLine) (hr : Room k callerA)
    (F : ∀ base : Heap, K.In base → base.Ns mainGlobals mg → FnG P w K mg base k fa fd [x] sp) (bnd : ∀ (s : Shared) (u : Value), BindsTo s fd ⟨[u], []⟩ [(x, u)])
    (hsp : ∀ H : Hp, Only H → SqL K H a (ns.map V.int) → sp [.ref a] H (fun v _ => v = .bl true) fun _ _ _ => False) :
    codeAny (model P w) callerA (.call (.ref fa) ⟨[.ref a], []⟩) (fun r s' => r = .ok (.ret (.bool true)) ∧ OldK s.heap s'.heap ∧ s'.os = s.os ∧ AllBare s'.gens) s := by
  have rels := vals_ints li
  have lens := li.length
  have main : ∀ H : Hp, Only H → SqL K H a (ns.map V.int) → HOk P w H s.heap → (∀ b u, H b = some u → b = a) → (∀ u, H a = some u → K.lookup a = none) →
      codeAny (model P w) callerA (.call (.ref fa) ⟨[.ref a], []⟩) (fun r s' => r = .ok (.ret (.bool true)) ∧ OldK s.heap s'.heap ∧ s'.os = s.os ∧ AllBare s'.gens) s := by
    intro H only seq hok atA notK
    have noDict : ∀ {b : Addr} {o : Obj} {es : Array DictEntry} {ep : Nat}, s.heap.get? b = some o → o.data = .dict es ep → H b = none := by
      intro b o es ep e d
      cases q : H b with
      | none => rfl
      | some u =>
        obtain rfl := atA b u q
        rw [la] at e
        cases e
        cases (show Data.seq vs.toArray _ = Data.dict es ep from d)
    have ns2 : ∀ {b : Addr} {m : Str → Option Value}, s.heap.Ns b m → (hidT s.heap H).Ns b m := by
      rintro b m ⟨o, es, ep, e, d, r⟩
      exact ⟨o, es, ep, hidT_get e (noDict e d), d, r⟩
    have inK2 : K.In (hidT s.heap H) := by
      intro b o e
      refine hidT_get (inK b o e) ?_
      cases q : H b with
      | none => rfl
      | some u =>
        obtain rfl := atA b u q
        rw [notK u q] at e
        cases e
    have md : Mod K mg (hidT s.heap H) := by
      obtain ⟨mc, c1, c2⟩ := nol
      exact ⟨inK2, ns2 gl, ⟨mb, ns2 bl, bb⟩, mc, ns2 c1, c2⟩
    have env0 : Env0 P w K mg (hidT s.heap H) callerA [] s H :=
      ⟨rfl, md, fun b o e => of_hidT e, Nat.le_of_eq (hidT_size _ _), trivial, (fun b hb => by cases (show b ∈ ([] : List Addr) from hb)), hok, .of_eq gens⟩
    refine codeAny_mono ((F _ inK2 (ns2 gl)).goes callerA [] s H ⟨[.ref a], []⟩ [.ref a] [.ref a] _ _ ⟨hr, rfl⟩ env0 (bnd s (.ref a)) (.cons rfl .nil) (hsp H only seq)) fun r s2 hq => ?_
    match r, hq with
    | .error e, hq =>
      obtain ⟨_, _, _, _, _, _, _, _, _, _, _, _, z⟩ := hq
      exact z.elim
    | .ok .next, hq => exact hq.elim
    | .ok .brk, hq => exact hq.elim
    | .ok .cont, hq => exact hq.elim
    | .ok (.ret u), hq =>
      obtain ⟨v, H2, os, bare, un, hok2, rv, q⟩ := hq
      obtain rfl : v = .bl true := q
      obtain rfl : u = Value.bool true := rv
      refine ⟨rfl, OldK.of_keep fun b o e => ?_, os, bare⟩
      cases hb : H b with
      | none => exact un.keep b o e hb (fun z => by cases (show b ∈ ([] : List Addr) from z)) (fun z => by cases (show b ∈ ([] : List Addr) from z))
      | some y =>
        obtain z | ⟨ob, xs, z⟩ := only b
        · rw [hb] at z
          cases z
        · have e1 := (hok b _ z).1
          have e2 := (hok2 b _ (un.frzs b ob _ z)).1
          rw [e] at e1
          cases e1
          exact e2
  cases hk : K.lookup a with
  | some o =>
    have e := inK a o hk
    rw [la] at e
    cases e
    exact main (fun _ => none) (fun _ => .inl rfl) (.inr ⟨_, vs.toArray, _, hk, rfl, rfl, rfl, by rw [List.size_toArray, lens]; exact ln, by simpa using rels⟩) (fun b u z => by cases z) (fun b u z => by cases z) fun u z => by cases z
  | none =>
    let H1 : Hp := fun b => if b = a then some (.frz { cls := .type "list", data := .seq vs.toArray } (.lst (ns.map V.int))) else none
    have ha : H1 a = some (.frz { cls := .type "list", data := .seq vs.toArray } (.lst (ns.map V.int))) := if_pos rfl
    have hne : ∀ b, b ≠ a → H1 b = none := fun b hb => if_neg hb
    refine main H1 (fun b => ?_) (.inl (.inr ⟨_, ha⟩)) (fun b u z => ?_) (fun b u z => ?_) fun _ _ => hk
    · by_cases hb : b = a
      · subst hb
        exact .inr ⟨_, _, ha⟩
      · exact .inl (hne b hb)
    · by_cases hb : b = a
      · subst hb
        rw [ha] at z
        cases z
        exact ⟨la, by rw [List.length_map]; exact ln, vs, _, rels, la⟩
      · rw [hne b hb] at z
        cases z
    · by_cases hb : b = a
      · exact hb
      · rw [hne b hb] at z
        cases z

/-- the goal that a head by facts leaves -/
theorem walk_G {l : PySem.W.OpenLaw} {n k : Nat} {q : Program} {loose : List Str} {XP : (Str → Option Value) → Heap → Prop} {YP : World → Heap → Prop} {d : DefRec} {x : Str}
    (hn : l.most = some n) (hn2 : n ≤ sizeLine) (hdf : d.params.defaults = []) (hr : Room k callerA)
    (F : ∀ (w : World) (mg : Str → Option Value) (fa : Addr) (h : Heap), YP w h → h.Ns mainGlobals mg → mg d.name = some (.ref fa) →
      ∃ (K : PySem.W.Frag) (fd : FuncData) (sp : Sp), K.In h ∧ (∀ (s : Shared) (u : Value), BindsTo s fd ⟨[u], []⟩ [(x, u)]) ∧
        (∀ (H : Hp) (a : Addr) (ns : List Int), ns.length ≤ n → (∀ z ∈ ns, Builtin.Int.intBits z ≤ 1048576) → Only H → SqL K H a (ns.map V.int) → sp [.ref a] H (fun v _ => v = .bl true) fun _ _ _ => False) ∧
        ∀ base : Heap, K.In base → base.Ns mainGlobals mg → FnG l.prog w K mg base k fa fd [x] sp) :
    PySem.W.WalkO q loose XP YP l.row.toRowW d [] (fun f vs => PySem.call f vs) := by
  refine Att.attach_callB hn hdf fun w s₀ s₁ mg mb fa o pm cd doc a vs ns G Y ho hd hcd hmg hobj hints hlen bits gens => ?_
  obtain ⟨K, fd, sp, inK, hb, hsp, hF⟩ := F w mg fa _ Y G.T.g hmg
  exact law_runs inK G.T.g G.T.b G.T.builtins G.T.nolimit gens hobj hints (Nat.le_trans hlen hn2) hr hF hb fun H hO hS => hsp H a ns hlen bits hO hS

section
variable {P : Program} {w : World} {K : PySem.W.Frag} {mg : Str → Option Value} {base : Heap} {k : Nat} {x m q : Str} {st : Stmt} {f C : Addr} {ps : List Str} {sp : Sp}
theorem Cal.of (g : mg x = some (.ref f)) (F : ∃ fd, Fun K x q st f fd) (b : ∀ {fd}, Fun K x q st f fd → Binds K fd ps []) (h : ∀ {fd}, Fun K x q st f fd → FnG P w K mg base k f fd ps sp) : Cal P w K mg base k x sp :=
  let ⟨fd, z⟩ := F; ⟨f, fd, ps, h z, g, z.kp, b z⟩
theorem Met.of (c : Cls K C) (mt : Meth K C m f) (F : ∃ fd, Fun K x q st f fd) (b : ∀ {fd}, Fun K x q st f fd → Binds K fd ps []) (h : ∀ {fd}, Fun K x q st f fd → FnG P w K mg base k f fd ps sp) : Met P w K mg base k C m sp :=
  let ⟨fd, z⟩ := F; ⟨f, fd, ps, c, mt, h z, b z⟩
theorem Mak.of (M : Mk K C f) (g : mg m = some (.ref C)) (F : ∃ fd, Fun K x q st f fd) (b : ∀ {fd}, Fun K x q st f fd → Binds K fd ps []) (h : ∀ {fd}, Fun K x q st f fd → FnG P w K mg base k f fd ps sp) : Mak P w K mg base k m C sp :=
  let ⟨fd, z⟩ := F; ⟨f, fd, ps, M, h z, g, b z⟩
end
/-- a def without defaults as a Fun -/
theorem toFun {K : PySem.W.Frag} {x qual : Str} {st : Stmt} {f : Addr} {fd : FuncData} (F : FunD K x qual (defArgs st) (defBody st) (defScope st) [] [] f fd) : Fun K x qual st f fd := by
  obtain ⟨oc, od, dV, kV, doc, pm, an, cdv, ct, osl, rfl, lk, cd, dv, _⟩ := F.ex
  rcases dv with ⟨_, rfl⟩ | ⟨z, _⟩
  · exact ⟨⟨oc, od, kV, doc, pm, an, cdv, ct, osl, rfl, lk, cd⟩, F.kp⟩
  · exact absurd rfl z
end FG

/-! GK: the layer's rules, their readings told over a named written part (so that they can stand within a comprehension). -/
namespace FG
open PySem PySem.Spec L2
open PyProof.Rows hiding St
section
variable {X : Cx} {e o a b : Expr} {es : List Expr} {f name : Str} {pos apos cpos p p2 p3 : Pos} {ta te tb to : TE} {t : TA} {T id : String} {r : V → List V → Hp → VK → Prop}
theorem kfld (K : PySem.W.Frag) (he : PE X e ta) (hb : attributeBase e f X.env (eval e X.env) = eval e X.env := by rfl) (hK : X.K = K := by rfl) : PE X (.Attribute e f pos) (tFld K ta f) := by subst hK; exact pe_fld he hb
theorem kixL (K : PySem.W.Frag) (hK : X.K = K := by rfl) : IxR X (rIxL K) := by subst hK; exact ix_list
theorem kixT (K : PySem.W.Frag) (hK : X.K = K := by rfl) : IxR X (rIxT K) := by subst hK; exact ix_tup
theorem kslL (K : PySem.W.Frag) (hK : X.K = K := by rfl) : SlR X (rSlL K) := by subst hK; exact sl_list
theorem kslT (K : PySem.W.Frag) (hK : X.K = K := by rfl) : SlR X (rSlT K) := by subst hK; exact sl_tup
theorem kin (K : PySem.W.Frag) (hK : X.K = K := by rfl) : OpR X (compareOp .In) (rIn K false) := by subst hK; exact op_in_seq
theorem knotIn (K : PySem.W.Frag) (hK : X.K = K := by rfl) : OpR X (compareOp .NotIn) (rIn K true) := by subst hK; exact op_notIn_seq
theorem keqD (K : PySem.W.Frag) (hu : X.A.units + 64 < cLine) (hK : X.K = K := by rfl) : OpR X (compareOp .Eq) (rEqD K) := by subst hK; exact op_eqD hu
theorem kneD (K : PySem.W.Frag) (hu : X.A.units + 64 < cLine) (hK : X.K = K := by rfl) : OpR X (compareOp .NotEq) (rNeD K) := by subst hK; exact op_neD hu
theorem knotInD (K : PySem.W.Frag) (hu : X.A.units + 65 < cLine) (hK : X.K = K := by rfl) : OpR X (compareOp .NotIn) (rNotInD K) := by subst hK; exact op_notInD hu
theorem kcatT (K : PySem.W.Frag) (hK : X.K = K := by rfl) : OpR X (binaryOp .Add) (rCatT K) := by subst hK; exact op_catT
def rLenS (K : PySem.W.Frag) (xs : List V) (H : Hp) (Q : VK) : Prop := ∃ p ys, xs = [.ref p] ∧ (SqL K H p ys ∨ SqT K H p ys) ∧ Q (.int ys.length) H
theorem klen (K : PySem.W.Frag) (hK : X.K = K := by rfl) : CallR X (.builtin "len") (rLenS K) := by subst hK; exact call_len_seq
def rListOf (K : PySem.W.Frag) (xs : List V) (H : Hp) (Q : VK) : Prop := ∃ p ys, xs = [.ref p] ∧ (SqL K H p ys ∨ SqT K H p ys) ∧ ∀ l, H l = none → Q (.ref l) (upd H l (.lst ys))
theorem klist (K : PySem.W.Frag) (hK : X.K = K := by rfl) : CallR X (.type "list") (rListOf K) := by subst hK; exact call_list_of
def rTupOf (K : PySem.W.Frag) (xs : List V) (H : Hp) (Q : VK) : Prop := ∃ p ys, xs = [.ref p] ∧ ((SqL K H p ys ∧ ∀ l, H l = none → Q (.ref l) (upd H l (.tup ys))) ∨ (SqT K H p ys ∧ Q (.ref p) H))
theorem ktuple (K : PySem.W.Frag) (hK : X.K = K := by rfl) : CallR X (.type "tuple") (rTupOf K) := by subst hK; exact call_tuple_of
theorem ksum (K : PySem.W.Frag) (hc : X.calm = true := by rfl) (hK : X.K = K := by rfl) : CallR X (.builtin "sum") (rSum K) := by subst hK; exact cr_sum hc
theorem kmax (K : PySem.W.Frag) (hc : X.calm = true := by rfl) (hK : X.K = K := by rfl) : CallR X (.builtin "max") (rMax K) := by subst hK; exact cr_max hc
theorem kmin (K : PySem.W.Frag) (hc : X.calm = true := by rfl) (hK : X.K = K := by rfl) : CallR X (.builtin "min") (rMin K) := by subst hK; exact cr_min hc
theorem kany (K : PySem.W.Frag) (hc : X.calm = true := by rfl) (hK : X.K = K := by rfl) : CallR X (.builtin "any") (rAny K) := by subst hK; exact cr_any hc
theorem kall (K : PySem.W.Frag) (hc : X.calm = true := by rfl) (hK : X.K = K := by rfl) : CallR X (.builtin "all") (rAll K) := by subst hK; exact cr_all hc
theorem kisi (K : PySem.W.Frag) (hK : X.K = K := by rfl) : CallR X (.builtin "isinstance") (rIsi K) := by subst hK; exact call_isi
theorem kbm0 (K : PySem.W.Frag) (pa : PlainAttrs T) (slot : Slot T name id) (hty : typeOf (.builtin id) = pure (.type "method_descriptor")) (hm : MtR X id r) (ho : PE X o to)
    (hbase : attributeBase o name X.env (eval o X.env) = eval o X.env := by rfl) (hline : (apos.endLine == cpos.line) = true := by rfl) (hK : X.K = K := by rfl) : PE X (.Call (.Attribute o name apos) [] [] cpos) (tBM0 K T r to) := by
  subst hK; exact pe_bm0 pa slot hty hm ho hbase hline
theorem kbm (K : PySem.W.Frag) (pa : PlainAttrs T) (slot : Slot T name id) (hty : typeOf (.builtin id) = pure (.type "method_descriptor")) (hm : MtR X id r) (ho : PE X o to) (ha : PA X (e :: es) t)
    (hbase : attributeBase o name X.env (eval o X.env) = eval o X.env := by rfl)
    (hfew : ((backTo cpos (starEach (e :: es) X.env)).all (fun x => !x.1) && (backToKw cpos (keywordEach [] X.env)).all (fun x => x.1.isSome) && decide ((e :: es).length + ([] : List Keyword).length + (if ([] : List Keyword).isEmpty then 0 else 1) < 30)) = true := by rfl)
    (hline : (apos.endLine == cpos.line) = true := by rfl) (hs : starEach (e :: es) X.env = (false, eval e X.env) :: starEach es X.env := by rfl) (hpl : (backTo cpos (starEach es X.env)).any (·.1) = false := by rfl) (hK : X.K = K := by rfl) :
    PE X (.Call (.Attribute o name apos) (e :: es) [] cpos) (tBM K T r to t) := by
  subst hK; exact pe_bm pa slot hty hm ho ha hbase hfew hline hs hpl
theorem krevL (K : PySem.W.Frag) {k : Nat} {p1 : Pos} (he : PE X e te) (hK : X.K = K := by rfl) : PE X (.Subscript e (.Slice none none (some (.UnaryOp .USub (.Constant (.int 1) k p1) p2)) p3) pos) (tRevL K te) := by subst hK; exact pe_revL he
theorem kiL (K : PySem.W.Frag) {tg : Expr} (he : PE X e te) (hK : X.K = K := by rfl) : PI X tg e (iList K te) := by subst hK; exact pi_list he
theorem kiT (K : PySem.W.Frag) {tg : Expr} (he : PE X e te) (hK : X.K = K := by rfl) : PI X tg e (iTup K te) := by subst hK; exact pi_tup he
theorem kiRev (K : PySem.W.Frag) {tg : Expr} (hg : Gl X "reversed") (hm : X.mg "reversed" = none) (ha : PA X [e] t) (hs : starEach [e] X.env = [(false, eval e X.env)] := by rfl) (hK : X.K = K := by rfl) :
    PI X tg (.Call (.Name "reversed" p) [e] [] pos) (iRev K t) := by subst hK; exact pi_reversed hg hm ha hs
theorem kgT (K : PySem.W.Frag) {k n : Nat} {tgs : TGs} (hc : X.calm = true) (h : PGs X es tgs) (hn : (assignEach es X.env).length = n := by rfl) (hst : (assignEach es X.env).findIdx? (·.1) = none := by rfl) (hK : X.K = K := by rfl) :
    PG X (.Tuple es k pos) (gTup K n tgs) := by subst hK; exact pg_tup hc h hn hst
def tTru (K : PySem.W.Frag) (te : TE) : TT := fun σ H Q => te σ H fun x H1 => ∃ k, TruV K x H1 k ∧ Q k H1
theorem ktru (K : PySem.W.Frag) (ha : PE X a ta) (he : ∀ whole, isTrue a X.env whole = (do let v ← whole; standAt a.pos; holding [v] (truthy v)) := by intro _; rfl) (hK : X.K = K := by rfl) : PT X a (tTru K ta) := by subst hK; exact pt_truth ha he
theorem krepr (K : PySem.W.Frag) {k : Nat} (hr : RG k X.A) (hm : X.mg "repr" = none) (he : PE X e te) (hg : Gl X "repr" := by rfl)
    (hs : starEach (e :: []) X.env = (false, eval e X.env) :: starEach [] X.env := by rfl) (hpl : (backTo pos (starEach [] X.env)).any (·.1) = false := by rfl) (hK : X.K = K := by rfl) :
    PE X (.Call (.Name "repr" p) [e] [] pos) (tCB (rRepr K) (tCons te tNil)) := by subst hK; exact pe_callB (call_repr hr) hg hm boot_repr (pa_cons he pa_nil hs) (by decide) (by decide) hs hpl
theorem ksFld (K : PySem.W.Frag) {p' : Pos} {v : Expr} {tv : TE} (ha : PE X o to) (hv : PE X v tv) (hs : swapsWith v (some (.Attribute o f p')) pos.line X.env = pure false := by rfl) (hK : X.K = K := by rfl) : PS X (.Assign [.Attribute o f p'] v pos) (sFld K to tv f) := by subst hK; exact ps_fld ha hv hs
/-- xs == [] -/
def rEqE (K : PySem.W.Frag) : R2 := fun x y H Q => ∃ a b xs, x = .ref a ∧ y = .ref b ∧ SqL K H a xs ∧ SqL K H b [] ∧ Q (.bl xs.isEmpty) H
theorem keqE (K : PySem.W.Frag) (hu : X.A.units + 64 < cLine) (hK : X.K = K := by rfl) : OpR X (compareOp .Eq) (rEqE K) := by
  subst hK
  intro pins s σ H x y v u Q I rx ry h
  obtain ⟨a, b, xs, rfl, rfl, ha, hb, q⟩ := h
  cases (show v = Value.ref a from rx)
  cases (show u = Value.ref b from ry)
  obtain ⟨us, r1, p1, _⟩ := I.list ha
  obtain ⟨ws, r2, p2, _⟩ := I.list hb
  cases r2
  cases r1 with
  | nil => exact SeqAt.RcAt.lists (e := fun _ => true) p1.isList p2.isList rfl (by omega) (fun j h1 _ => absurd h1 (Nat.not_lt_zero j)) _ _ _ _ ⟨.bl true, H, I, rfl, q⟩
  | cons c d => exact SeqAt.RcAt.lists_lengths p1.isList p2.isList (by simp) (by omega) _ _ _ _ ⟨.bl false, H, I, rfl, q⟩
end
end FG

/-! GRepr: the texts of small data fit. -/
namespace FG
open PySem PySem.Spec L2
open PyProof.Rows hiding St
mutual
/-- numbers of at most 38 figures, signs below 16 ^ 8 -/
def okD : PyData → Bool
  | .none | .bool _ => true
  | .int i => decide (i.natAbs < 10 ^ 38)
  | .str x => x.cps.toList.all fun c => c < 16 ^ 8
  | .list xs | .tuple xs => okDs xs
  | .dict kvs => kvs.isEmpty
def okDs : List PyData → Bool
  | [] => true
  | x :: xs => okD x && okDs xs
end
theorem int_short {i : Int} (h : i.natAbs < 10 ^ 38) : (PyData.shown (.int i)).length ≤ 40 := by
  have h1 := int_text_length_le10 (a := i) (k := 38) (by decide) h
  have h2 : (PyData.shown (.int i)).length = (toString i).length := by
    show (Str.ofString (toString i)).length = _
    rw [PySem.ofString_length]
  omega
theorem log_small {i : Int} (h : i.natAbs < 10 ^ 38) : i.natAbs.log2 < 1920 := log2_small (Nat.lt_trans h (by decide +kernel))
mutual
theorem okD_leaves : ∀ d : PyData, okD d = true → d.leavesShort 40 = true ∧ d.showable = true
  | .none, _ => ⟨by simp only [PyData.leavesShort], by simp only [PyData.showable]⟩
  | .bool _, _ => ⟨by simp only [PyData.leavesShort], by simp only [PyData.showable]⟩
  | .int i, h => by
    have h2 : i.natAbs < 10 ^ 38 := by simpa only [okD, decide_eq_true_eq] using h
    exact ⟨by simp only [PyData.leavesShort, decide_eq_true_eq]; exact int_short h2, by simp only [PyData.showable, decide_eq_true_eq]; exact log_small h2⟩
  | .str x, h => ⟨by simpa only [okD, PyData.leavesShort] using h, by simp only [PyData.showable]⟩
  | .list xs, h => by
    have z := okDs_leaves xs (by simpa only [okD] using h)
    exact ⟨by simp only [PyData.leavesShort]; exact z.1, by simp only [PyData.showable]; exact z.2⟩
  | .tuple xs, h => by
    have z := okDs_leaves xs (by simpa only [okD] using h)
    exact ⟨by simp only [PyData.leavesShort]; exact z.1, by simp only [PyData.showable]; exact z.2⟩
  | .dict [], _ => ⟨by simp only [PyData.leavesShort, PyData.leavesShortKv], by simp only [PyData.showable, PyData.showableKv]⟩
  | .dict (_ :: _), h => by simp [okD] at h
theorem okDs_leaves : ∀ ds : List PyData, okDs ds = true → PyData.leavesShortAll 40 ds = true ∧ PyData.showableAll ds = true
  | [], _ => ⟨by simp only [PyData.leavesShortAll], by simp only [PyData.showableAll]⟩
  | d :: ds, h => by
    have h2 : okD d = true ∧ okDs ds = true := by simpa only [okDs, Bool.and_eq_true] using h
    have a := okD_leaves d h2.1
    have b := okDs_leaves ds h2.2
    exact ⟨by simp only [PyData.leavesShortAll, a.1, b.1, Bool.and_self], by simp only [PyData.showableAll, a.2, b.2, Bool.and_self]⟩
end
theorem shw_at {K : PySem.W.Frag} {v : V} {d : PyData} {H : Hp} (hd : Dp K H v d) (ok : okD d = true) (hb : d.bulk ≤ 300000) (hdep : d.depth ≤ 60) : Shw K H v d := by
  obtain ⟨h1, h2⟩ := okD_leaves d ok
  refine ⟨.inl hd, h2, ?_, hdep⟩
  have := PyData.shown_le_bulk 40 (by decide) d h1
  rw [sizeLine_eq]
  omega
theorem shw_atE {K : PySem.W.Frag} {v : V} {d : PyData} {H : Hp} (hd : DpE H v d) (ok : okD d = true) (hb : d.bulk ≤ 300000) (hdep : d.depth ≤ 60) : Shw K H v d := by
  obtain ⟨h1, h2⟩ := okD_leaves d ok
  refine ⟨.inr hd, h2, ?_, hdep⟩
  have := PyData.shown_le_bulk 40 (by decide) d h1
  rw [sizeLine_eq]
  omega
theorem okDs_of {ds : List PyData} (h : ∀ d ∈ ds, okD d = true) : okDs ds = true := by
  induction ds with
  | nil => simp only [okDs]
  | cons d ds ih =>
    simp only [okDs, Bool.and_eq_true]
    exact ⟨h d (by simp), ih fun x hx => h x (by simp [hx])⟩
theorem bulk_flat {ds : List PyData} (h : ∀ d ∈ ds, d.bulk = 0) : PyData.bulkAll ds = ds.length := by
  induction ds with
  | nil => simp only [PyData.bulkAll, List.length_nil]
  | cons d ds ih =>
    simp only [PyData.bulkAll, List.length_cons]
    rw [h d (by simp), ih fun x hx => h x (by simp [hx])]; omega
theorem depth_flat {ds : List PyData} (h : ∀ d ∈ ds, d.depth = 0) : PyData.depthAll ds = 0 := by
  induction ds with
  | nil => simp only [PyData.depthAll]
  | cons d ds ih =>
    simp only [PyData.depthAll]
    rw [h d (by simp), ih fun x hx => h x (by simp [hx])]; rfl
theorem shw_int {K : PySem.W.Frag} {i : Int} {H : Hp} (h : i.natAbs < 10 ^ 38) : Shw K H (.int i) (.int i) :=
  shw_at (.int i) (by simp only [okD, decide_eq_true_eq]; exact h) (by simp only [PyData.bulk]; omega) (by simp only [PyData.depth]; omega)
theorem shw_small {K : PySem.W.Frag} {i : Int} {H : Hp} (h : i.natAbs < 1000000000000) : Shw K H (.int i) (.int i) := shw_int (Nat.lt_trans h (by decide))
theorem shw_bool {K : PySem.W.Frag} {b : Bool} {H : Hp} : Shw K H (.bl b) (.bool b) :=
  shw_at (.bl b) (by simp only [okD]) (by simp only [PyData.bulk]; omega) (by simp only [PyData.depth]; omega)
theorem shw_none {K : PySem.W.Frag} {H : Hp} : Shw K H .non .none :=
  shw_at .non (by simp only [okD]) (by simp only [PyData.bulk]; omega) (by simp only [PyData.depth]; omega)
end FG

/-! GExc: own exceptions with fields: what the written part says, made and raised, caught by clauses with and without a name, asked in a suite. Own layer over HandS. -/
namespace FG
open PySem PySem.Spec L2
open PyProof.Rows hiding St

/-! ### facts -/
theorem ba2 {a b : Bool} (h : (a && b) = true) : a = true ∧ b = true := Bool.and_eq_true_iff.mp h
def oexB (K : PySem.W.Frag) (C : Addr) : Bool := (match K.lookup C with
  | some ⟨.type ty, _, .cls cd, sl⟩ => (match cd.mro, sl.toList with
    | .ref C' :: bm, [_, _, _, _, some (.builtin n), _] => decide (ty = "type") && (decide (C' = C) && (HandSPX.refsVE bm && (cd.hasDict && (!cd.hasDel && decide (n = "ValueError.__new__")))))
    | _, _ => false)
  | _ => false) && (decide (PySem.W.findIn K (.ref C) "__setattr__" = some (some (.builtin "object.__setattr__"))) && (decide (PySem.W.subIn K (.ref C) (.type "BaseException") = some true) && (decide (PySem.W.typeIn K (.ref C) = some (.type "type")) && PySem.W.keepIn K (.ref C))))
theorem oexB_ok {K : PySem.W.Frag} {C : Addr} (h : oexB K C = true) : OexC K C := by
  unfold oexB at h
  obtain ⟨h1, h⟩ := ba2 h
  obtain ⟨h2, h⟩ := ba2 h
  obtain ⟨h3, h⟩ := ba2 h
  obtain ⟨h4, h5⟩ := ba2 h
  refine ⟨?_, of_decide_eq_true h2, of_decide_eq_true h3, of_decide_eq_true h4, h5⟩
  split at h1
  · rename_i ty dd cd sl ho
    split at h1
    · rename_i C' bm k0 k1 k2 k3 n k5 hm hs
      simp only [Bool.and_eq_true, decide_eq_true_eq, Bool.not_eq_true'] at h1
      obtain ⟨rfl, rfl, hr, hd, hdel, rfl⟩ := h1
      obtain ⟨nm, bs, mro, ns, qn, hd', sn, sub, ab, col, del⟩ := cd
      dsimp only at hm hd hdel
      subst hm hd hdel
      have hsl : sl = #[k0, k1, k2, k3, some (.builtin "ValueError.__new__"), k5] := by
        obtain ⟨l⟩ := sl
        simp only at hs
        rw [hs]
      subst hsl
      exact ⟨nm, qn, ns, bs, bm, sn, sub, ab, col, dd, k0, k1, k2, k3, k5, ho, hr⟩
    · cases h1
  · cases h1
/-- what isinstance and an instance's fields ask of the class -/
def excB (K : PySem.W.Frag) (D : Addr) : Bool :=
  decide (PySem.W.findIn K (.ref D) "__getattribute__" = some (some (.builtin "BaseException.__getattribute__"))) && (decide (PySem.W.findIn K (.ref D) "__getattr__" = some none) && (decide (PySem.W.subIn K (.ref D) (.type "BaseException") = some true) &&
  (PySem.W.hasDictIn K D && (decide (PySem.W.findIn K (.ref D) "__class__" = some (some (.builtin "object.__class__"))) && (decide (PySem.W.specialIn K (.builtin "object.__class__") "__get__" = some (some (.builtin "getset_descriptor.__get__"))) &&
  (decide (PySem.W.takesIn K (.builtin "object.__class__") = some true) && decide (PySem.W.mroIn K D (.type "object") = some true)))))))
theorem excB_ok {K : PySem.W.Frag} {D : Addr} (h : excB K D = true) : ExcC K D ∧ XfC K D := by
  unfold excB at h
  obtain ⟨h1, h⟩ := ba2 h
  obtain ⟨h2, h⟩ := ba2 h
  obtain ⟨h3, h⟩ := ba2 h
  obtain ⟨h4, h⟩ := ba2 h
  obtain ⟨h5, h⟩ := ba2 h
  obtain ⟨h6, h⟩ := ba2 h
  obtain ⟨h7, h8⟩ := ba2 h
  exact ⟨⟨of_decide_eq_true h1, of_decide_eq_true h2, of_decide_eq_true h3, h4, of_decide_eq_true h5, of_decide_eq_true h6, of_decide_eq_true h7, of_decide_eq_true h8⟩, ⟨of_decide_eq_true h1, of_decide_eq_true h2, of_decide_eq_true h3, h4⟩⟩
/-- an own exception class with these fields -/
structure XC (K : PySem.W.Frag) (C : Addr) (fs : List Str) : Prop where
  o : OexC K C
  e : ExcC K C
  x : XfC K C
  no : ∀ f ∈ fs, PySem.W.findIn K (.ref C) f = some none
/-- its own __init__ -/
structure XI (K : PySem.W.Frag) (C f : Addr) : Prop where
  i : PySem.W.findIn K (.ref C) "__init__" = some (some (.ref f))
  t : PySem.W.typeIn K (.ref f) = some (.type "function")
/-- an own exception class without __init__ -/
structure X0 (K : PySem.W.Frag) (C : Addr) : Prop where
  q : PySem.W.excIn K C He.veBase "ValueError.__new__" = true
  k : PySem.W.keepIn K (.ref C) = true
  s : PySem.W.subIn K (.ref C) (.type "BaseException") = some true
  t : PySem.W.typeIn K (.ref C) = some (.type "type")
  e : ExcC K C
/-- what is told of the written part beyond the kit's facts -/
inductive Xa where
  | oex (c : Str) (fs : List Str)
  | zer (c : Str)
  | exm (c d : Str) (b : Bool)
  | isi (c d : Str) (b : Bool)
  | prop (f : PySem.W.Frag → Bool)
def Xa.ok (K : PySem.W.Frag) : Xa → Bool
  | .oex c fs => oexB K (He.ga K c) && (excB K (He.ga K c) && (fs.all (fun f => decide (PySem.W.findIn K (.ref (He.ga K c)) f = some none)) && (decide (PySem.W.findIn K (.ref (He.ga K c)) "__init__" = some (some (.ref (He.ma K (He.ga K c) "__init__")))) &&
      decide (PySem.W.typeIn K (.ref (He.ma K (He.ga K c) "__init__")) = some (.type "function")))))
  | .zer c => PySem.W.excIn K (He.ga K c) He.veBase "ValueError.__new__" && (PySem.W.keepIn K (.ref (He.ga K c)) && (decide (PySem.W.subIn K (.ref (He.ga K c)) (.type "BaseException") = some true) && (decide (PySem.W.typeIn K (.ref (He.ga K c)) = some (.type "type")) && excB K (He.ga K c))))
  | .exm c d b => decide (PySem.W.exmOne K (.ref (He.ga K c)) (.ref (He.ga K d)) = some b)
  | .isi c d b => decide (PySem.W.kitOne K (.ref (He.ga K c)) (.ref (He.ga K d)) = some b)
  | .prop f => f K
theorem oex_ok {K : PySem.W.Frag} {c : Str} {fs : List Str} (h : (Xa.oex c fs).ok K = true) : XC K (He.ga K c) fs ∧ XI K (He.ga K c) (He.ma K (He.ga K c) "__init__") := by
  obtain ⟨h1, h⟩ := ba2 h
  obtain ⟨h2, h⟩ := ba2 h
  obtain ⟨h3, h⟩ := ba2 h
  obtain ⟨h4, h5⟩ := ba2 h
  obtain ⟨e, x⟩ := excB_ok h2
  exact ⟨⟨oexB_ok h1, e, x, fun f hf => of_decide_eq_true (List.all_eq_true.mp h3 f hf)⟩, ⟨of_decide_eq_true h4, of_decide_eq_true h5⟩⟩
theorem zer_ok {K : PySem.W.Frag} {c : Str} (h : (Xa.zer c).ok K = true) : X0 K (He.ga K c) := by
  obtain ⟨h1, h⟩ := ba2 h
  obtain ⟨h2, h⟩ := ba2 h
  obtain ⟨h3, h⟩ := ba2 h
  obtain ⟨h4, h5⟩ := ba2 h
  exact ⟨h1, h2, of_decide_eq_true h3, of_decide_eq_true h4, (excB_ok h5).1⟩
theorem exm_ok {K : PySem.W.Frag} {c d : Str} {b : Bool} (h : (Xa.exm c d b).ok K = true) : PySem.W.exmOne K (.ref (He.ga K c)) (.ref (He.ga K d)) = some b := of_decide_eq_true h
theorem isi_ok {K : PySem.W.Frag} {c d : Str} {b : Bool} (h : (Xa.isi c d b).ok K = true) : PySem.W.kitOne K (.ref (He.ga K c)) (.ref (He.ga K d)) = some b := of_decide_eq_true h
theorem xa_at {K : PySem.W.Frag} {l : List Xa} (h : (l.all fun x => x.ok K) = true) (i : Nat) {x : Xa} (hx : l[i]? = some x) : x.ok K = true := List.all_eq_true.mp h x (List.mem_of_getElem? hx)

/-! ### made and raised -/
/-- what such an __init__ does: self.f1 = y1; self.f2 = y2; .. -/
def spIni (K : PySem.W.Frag) (fs : List Str) : Sp := fun vs H Q _ => ∃ (a C : Addr) (ys : List V), vs = .ref a :: ys ∧ ys.length = fs.length ∧ XC K C fs ∧ H a = some (exo a C none) ∧
  ∀ d H', H d = none → d ≠ a → H' a = some (exo a C (some d)) → H' d = some (exd d (fs.zip ys).reverse) → (∀ b, b ≠ a → b ≠ d → H' b = H b) → Q .non H'
/-- the class x, at C, may be raised with these fields -/
structure Rai (P : Program) (w : World) (K : PySem.W.Frag) (mg : Str → Option Value) (base : Heap) (x : Str) (C : Addr) (fs : List Str) : Prop where
  ex : ∃ (f : Addr) (fd : FuncData) (ps : List Str), XC K C fs ∧ XI K C f ∧ FnG P w K mg base 1 f fd ps (spIni K fs) ∧ Binds K fd ps [] ∧ mg x = some (.ref C)
theorem Rai.of {P : Program} {w : World} {K : PySem.W.Frag} {mg : Str → Option Value} {base : Heap} {x m q : Str} {C f : Addr} {fs ps : List Str} {st : Stmt} (xc : XC K C fs ∧ XI K C f) (g : mg x = some (.ref C)) (F : ∃ fd, Fun K m q st f fd)
    (b : ∀ {fd}, Fun K m q st f fd → Binds K fd ps []) (h : ∀ {fd}, Fun K m q st f fd → FnG P w K mg base 1 f fd ps (spIni K fs)) : Rai P w K mg base x C fs :=
  let ⟨fd, z⟩ := F; ⟨f, fd, ps, xc.1, xc.2, h z, b z, g⟩
section
variable {X : Cx} {x : Str} {C : Addr} {fs : List Str} {W : WX} {e : Expr} {es : List Expr} {ta : TA} {p pos pos2 : Pos}
theorem pmk_G (R : Rai X.prog X.w X.K X.mg X.base x C fs) (hr : RG 2 X.A) (tk : Takes X W) (ha : PA X (e :: es) ta) (hg : Gl X x := by rfl)
    (hdb : (x == ("__debug__" : Str)) = false := by decide) (he : starEach (e :: es) X.env = (false, eval e X.env) :: starEach es X.env := by rfl) (hpl : (backTo pos (starEach es X.env)).any (·.1) = false := by rfl) :
    PMk X (.Call (.Name x p) (e :: es) [] pos) (fun σ H Q => ta σ H fun vs H1 => vs.length = fs.length ∧ vs.length ≤ 10 ∧ ∀ d, H1 d = none → Q (.ref C) (some d) (upd H1 d (.xd (fs.zip vs).reverse))) := by
  intro pins s σ H Q I h
  obtain ⟨fI, fd, ps, xc, xi, F1, hb, hm⟩ := R.ex
  obtain ⟨nm, q, N, bs, bm, sn, sub, ab, col, dd, k0, k1, k2, k3, k5, hC, hbm⟩ := xc.o.cls
  refine wpAny_Call_Name_kw (ld_glob I hg hm ?_ hdb)
  refine PySem.W.callWith_K (h₀ := X.base) I.ok.mod.kin xc.o.kC (thn (ha.run pos pins s σ H _ I h) fun us s1 ⟨vs, H1, I1, r1, hl1, hl2, q1⟩ => ⟨I1.kIn, ?_⟩) he hpl
  show wpAny _ _ (call (.ref C) us) _ _ _
  obtain ⟨hp, g, dr, tk', os⟩ := s1
  have hsz : hp.objs.size ≤ hp.objs.size + 1 := Nat.le_succ _
  have hn : H1 (hp.objs.size + 1) = none := I1.hok.fresh hsz
  have hq : spIni X.K fs (.ref (hp.objs.size + 1) :: vs) (upd H1 (hp.objs.size + 1) (exo (hp.objs.size + 1) C none))
      (fun v H2 => v = .non ∧ ∃ (d : Addr) (fs' : List (Str × V)), H2 (hp.objs.size + 1) = some (exo (hp.objs.size + 1) C (some d)) ∧ H2 d = some (exd d fs') ∧ H1 d = none ∧ Q (.ref C) (some d) (upd (del H2 (hp.objs.size + 1)) d (.xd fs'))) (fun _ _ _ => False) := by
    refine ⟨_, C, vs, rfl, hl1, xc, upd_same, fun d H' hd hda ea ed oth => ⟨rfl, d, _, ea, ed, (upd_ne hda).symm.trans hd, ?_⟩⟩
    have hd1 : H1 d = none := (upd_ne hda).symm.trans hd
    have eH : upd (del H' (hp.objs.size + 1)) d (.xd (fs.zip vs).reverse) = upd H1 d (.xd (fs.zip vs).reverse) := by
      funext b
      by_cases hbd : b = d
      · rw [hbd, upd_same, upd_same]
      · rw [upd_ne hbd, upd_ne hbd]
        by_cases hba : b = hp.objs.size + 1
        · rw [hba, del_same, hn]
        · rw [del_ne hba, oth b hba hbd, upd_ne hba]
    rw [eH]
    exact q1 d hd1
  have kk : ∀ b o, hp.get? b = some o → ((hp.push (PySem.W.kdv_tup us)).push (PySem.HandSPX.excO C hp.objs.size)).get? b = some o := fun b o e => Heap.get?_push_of_some _ (Heap.get?_push_of_some _ e)
  have hget : ((hp.push (PySem.W.kdv_tup us)).push (PySem.HandSPX.excO C hp.objs.size)).get? (hp.objs.size + 1) = some (PySem.HandSPX.excO C hp.objs.size) := by heap_get
  have I2 : Inv X pins σ (upd H1 (hp.objs.size + 1) (exo (hp.objs.size + 1) C none)) ⟨(hp.push (PySem.W.kdv_tup us)).push (PySem.HandSPX.excO C hp.objs.size), g, dr, tk', os⟩ :=
    I1.laid (t' := tk') (a := hp.objs.size + 1) (o := exo (hp.objs.size + 1) C none) (h' := (hp.push (PySem.W.kdv_tup us)).push (PySem.HandSPX.excO C hp.objs.size)) kk hsz (exo_ok hget)
  have r2 : Vals (V.ref (hp.objs.size + 1) :: vs) (Value.ref (hp.objs.size + 1) :: us) := .cons rfl r1
  have hl : (Value.ref (hp.objs.size + 1) :: us).length = ps.length := by
    have e := r2.length
    rw [F1.nargs _ _ _ _ hq] at e
    exact e.symm
  have hus : us.length ≤ sizeLine := by
    rw [← Paired.length r1, sizeLine_eq]
    omega
  have b := hb _ (Value.ref (hp.objs.size + 1) :: us) I2.kIn (by simpa using hl)
  rw [List.append_nil] at b
  refine wpAny_call (PySem.HandSPX.call_own F.excBase_ValueError (fun Y => PySem.HandSPX.refsVE_contains Y bm hbm) (I1.kIn _ _ hC) (PySem.W.looks_findIn I1.kIn xi.i) (fun self => PySem.W.bind_fn I1.kIn self xi.t) hus
    (codeAny_mono (F1.goes _ X.stack _ _ ⟨Value.ref (hp.objs.size + 1) :: us, []⟩ (Value.ref (hp.objs.size + 1) :: us) _ _ _ ⟨hr.r.make C us [], make_guards.trans hr.g⟩ (I2.env0.make C us []) b r2 hq) fun r s' hq' => ?_))
  cases r with
  | error er => exact passes_call tk (fun _ _ _ _ z => False.elim z) pins σ _ _ er s' I2 hq'
  | ok fl =>
    cases fl with
    | ret u =>
      obtain ⟨v, H2, os2, bare2, un2, hok2, rv, ev, d, fs', ea, ed, hd1, q2⟩ := hq'
      subst ev
      obtain ⟨h2, g2, d2, t2, os'⟩ := s'
      exact ⟨rv, mk_end (raises_own xc.o.exC xc.o.tyC) I1 hsz kk un2 hok2 os2 bare2 ea ed hd1 q2⟩
    | next => exact False.elim hq'
    | brk => exact False.elim hq'
    | cont => exact False.elim hq'
/-- raise C(e, ..) -/
def tRais (C : Addr) (fs : List Str) (W : WX) (ta : TA) : TS := fun _ σ H => ta σ H fun vs H1 => vs.length = fs.length ∧ vs.length ≤ 10 ∧ ∀ d, H1 d = none → W (.ref C) (some d) σ (upd H1 d (.xd (fs.zip vs).reverse))
theorem ps_rais (R : Rai X.prog X.w X.K X.mg X.base x C fs) (hr : RG 2 X.A) (tk : Takes X W) (ha : PA X (e :: es) ta) (hc : X.calm = true := by rfl) (hg : Gl X x := by rfl)
    (hdb : (x == ("__debug__" : Str)) = false := by decide) (he : starEach (e :: es) X.env = (false, eval e X.env) :: starEach es X.env := by rfl) (hpl : (backTo pos (starEach es X.env)).any (·.1) = false := by rfl) :
    PS X (.Raise (some (.Call (.Name x p) (e :: es) [] pos)) none pos2) (tRais C fs W ta) := ps_raise hc tk (pmk_G R hr tk ha hg hdb he hpl)
/-- C(), without __init__ -/
theorem pmk_0 (q : X0 X.K C) (gC : X.mg x = some (.ref C)) (hg : Gl X x) (hdb : (x == ("__debug__" : Str)) = false := by decide) : PMk X (.Call (.Name x p) [] [] pos) (fun _ H Q => Q (.ref C) none H) := by
  intro pins s σ H Q I h
  refine wpAny_Call_Name_kw (ld_glob I hg gC ?_ hdb)
  refine PySem.W.callWith_K0 I.kIn q.k ?_
  show wpAny _ _ (call (.ref C) []) _ _ _
  obtain ⟨bm, N, nm, qn, bs, hdct, sn, sub, ab, col, dd, k0, k1, k2, k3, k5, mN, hC, hN, hni, T⟩ := exc_obj I.kIn q.q
  refine wpAny_call_exc_subT F.excBase_ValueError T hC hN hni (fun h' e hm => ?_) (by show 0 ≤ sizeLine; omega)
  exact mk_of I hm (raises_own q.s q.t) h (I.hok.gone hm.new)
def tRais0 (C : Addr) (W : WX) : TS := fun _ σ H => W (.ref C) none σ H
theorem ps_rais0 (q : X0 X.K C) (gC : X.mg x = some (.ref C)) (tk : Takes X W) (hc : X.calm = true := by rfl) (hg : Gl X x := by rfl) (hdb : (x == ("__debug__" : Str)) = false := by decide) :
    PS X (.Raise (some (.Call (.Name x p) [] [] pos)) none pos2) (tRais0 C W) := ps_raise hc tk (pmk_0 q gC hg hdb)
end

/-! ### caught: clauses with and without a name -/
abbrev Hd : Type := Value × Option Nat × (Addr → Value → Option Addr → TS)
/-- the slots behind a suite: the name is gone -/
def Ends.off (D : Ends) (i : Nat) : Ends := { nx := fun σ' H' => D.nx (σ'.set i none) H', rt := D.rt, bk := fun σ' H' => D.bk (σ'.set i none) H', ct := fun σ' H' => D.ct (σ'.set i none) H' }
def wMix (K : PySem.W.Frag) (Wout : WX) (D : Ends) : List Hd → WX
  | [] => Wout
  | (c, none, ts) :: r => fun cls d σ H => ∃ b, PySem.W.exmOne K cls c = some b ∧ if b = true then (∀ a, H a = none → ts a cls d D σ H) else wMix K Wout D r cls d σ H
  | (c, some i, ts) :: r => fun cls d σ H => ∃ b, PySem.W.exmOne K cls c = some b ∧ if b = true then (∀ a, H a = none → ts a cls d (Ends.off D i) (σ.set i (some (.ref a))) H) else wMix K Wout D r cls d σ H
inductive MixOk (X : Cx) : List ExceptHandler → List Hd → Prop
  | nil : MixOk X [] []
  | bare {x : Str} {c : Value} {ts : Addr → Value → Option Addr → TS} {b₀ : Stmt} {suite : List Stmt} {np pos' : Pos} {hds : List ExceptHandler} {l : List Hd} (hc : Names X x c)
      (hsu : ∀ (a : Addr) (oe : Obj) (cls : Value) (d : Option Addr) (pn : List (Addr × Obj)), Zc cls d oe → (∃ vs, oe.data = .fields vs) → PSs (X.suite a ((a, oe) :: pn)) (b₀ :: suite) (ts a cls d)) (r : MixOk X hds l) :
      MixOk X (.ExceptHandler (some (.Name x np)) none (b₀ :: suite) pos' :: hds) ((c, none, ts) :: l)
  | as {x n : Str} {c : Value} {i : Nat} {ts : Addr → Value → Option Addr → TS} {b₀ : Stmt} {suite : List Stmt} {np pos' : Pos} {hds : List ExceptHandler} {l : List Hd} (hc : Names X x c) (hi : X.N[i]? = some n) (hln : X.env.kindOf n = some .local)
      (hsu : ∀ (a : Addr) (oe : Obj) (cls : Value) (d : Option Addr) (pn : List (Addr × Obj)), Zc cls d oe → (∃ vs, oe.data = .fields vs) → PSs (X.suite a ((a, oe) :: pn)) (b₀ :: suite) (ts a cls d)) (r : MixOk X hds l) :
      MixOk X (.ExceptHandler (some (.Name x np)) (some n) (b₀ :: suite) pos' :: hds) ((c, some i, ts) :: l)
section
variable {X : Cx} {body : List Stmt} {h₀ : ExceptHandler} {hds : List ExceptHandler} {l : List Hd} {pos : Pos} {tb : WX → TS} {Wout : WX}
def tTry (K : PySem.W.Frag) (Wout : WX) (l : List Hd) (tb : WX → TS) : TS := fun D σ H => tb (wMix K Wout D l) D σ H
theorem ps_mix (hN : X.N.Nodup) (tk : Takes X Wout)
    (hb : ∀ (W : WX) (pn : List (Addr × Obj)) (xe : Value → Shared → Prop), Takes (X.tr pn xe) W → PassesOwn (model X.prog X.w) X.A X.env xe → PSs (X.tr pn xe) body (tb W))
    (hh : MixOk X (h₀ :: hds) l) (hs : X.stack = X.env :: X.outer := by rfl) (hf : X.env.frame = some X.env.locals := by rfl) : PS X (.Try body (h₀ :: hds) [] [] pos) (tTry X.K Wout l tb) := by
  refine ⟨fun pins s σ H D I h => ?_⟩
  have ok := I.ok
  have hfr : X.A.frames = some (X.env :: X.outer) := by rw [ok.frames, hs]
  refine wpAny_Try_except ?_
  refine wpAny_mono ((hb (wMix X.K Wout D l) (X.pn ++ pins) (fun e s₁ => wpAny (model X.prog X.w) X.A (noteFrame e X.env) (fun _ s₂ => wpAny (model X.prog X.w) X.A (setFlight e none) (fun _ s₃ =>
    wpAny (model X.prog X.w) X.A (handleBy e X.env (h₀ :: hds)) (SP X pins D) X.xe s₃) X.xe s₂) X.xe s₁) (fun u s' xx => ?_) PassesOwn.looking).run [] s σ H D (I.toTry _) h) (fun f s1 hsp => ?_) (fun e s1 he => he)
  · obtain ⟨a, B, sI, pins', σ', H', cls, d, rfl, J', nb, up, sky, na, os, ag, w⟩ := xx
    have J : Inv X pins σ' H' sI := J'.ofTry ok
    have sky' : Sky B (X.env :: X.outer) a (Zc cls d) X.env.locals s'.heap := by rw [← hs]; exact sky
    show wpAny (model X.prog X.w) X.A (noteFrame (.ref a) X.env) _ _ _
    refine Sky.land Zc.steady hfr hf sky' fun h3 fl3 up3 => ?_
    have J3 : Inv X pins σ' H' { s' with heap := h3 } := J.landed nb fl3.1 (up.trans up3) os ag
    obtain ⟨oe3, vs3, he3, hz3, hd3⟩ := fl3.there
    have notFr : ∀ {h : Heap} {o : Obj} {vs : Array Value}, h.FunFrames B (X.env :: X.outer) → h.get? a = some o → o.data = .fields vs → a ∉ frs (X.env :: X.outer) := fun {h o vs} ff e dd hm => by
      obtain ⟨_, o', e', hnf⟩ := ff.mem hm
      rw [e] at e'; cases e'
      exact hnf _ dd
    have nfr := notFr fl3.2.2.1 he3 hd3
    have nL : a ≠ X.env.locals := fun z => nfr (List.mem_filterMap.mpr ⟨X.env, List.mem_cons_self, by rw [hf, z]⟩)
    have nF : a ∉ X.fs := fun hm => by
      obtain ⟨e, he, q⟩ := List.mem_filterMap.mp hm
      exact nfr (List.mem_filterMap.mpr ⟨e, List.mem_cons_of_mem _ he, q⟩)
    have S3 := J3.suite he3 hd3 na nL nF
    have LT : PySem.W.Looks (model X.prog X.w) h3 (typeOf (.ref a)) cls := fun A Q E s k q => wpAny_typeOf_ref (k _ _ he3) (by rw [hz3.1]; exact q)
    have test : ∀ {x : Str} {c : Value} {np : Pos} {Q : Value → Shared → Prop} {E : Value → Shared → Prop}, Names X x c → Q c { s' with heap := h3 } → wpAny (model X.prog X.w) (X.A.mark (some (.ref a))) (eval (.Name x np) X.env) Q E { s' with heap := h3 } := fun {x c np Q E} hc q => by
      obtain ⟨hg, hdbg, hm | ⟨hm, hv, hnn⟩⟩ := hc
      · exact ld_glob (X := X.suite a ((a, oe3) :: (X.pn ++ pins))) S3 hg hm q hdbg
      · exact ld_blt (X := X.suite a ((a, oe3) :: (X.pn ++ pins))) S3 hg hm hv q hnn hdbg
    have go : ∀ {hds' : List ExceptHandler} {l' : List Hd}, MixOk X hds' l' → wMix X.K Wout D l' cls d σ' H' →
        wpAny (model X.prog X.w) X.A (handleBy (.ref a) X.env hds') (SP X pins D) X.xe { s' with heap := h3 } := by
      intro hds' l' hk
      induction hk with
      | nil =>
        intro w
        refine wpAny_handleBy_nil ?_
        obtain ⟨k1, k2, k3, oe, vs, T, oT, ts', he, hz, hd, h1, hr⟩ := id fl3
        unfold PySem.passOn
        refine wpAny_bind (wpAny_field he hd h1 ?_)
        rw [if_neg (show ¬ ((Value.ref T == Value.none) = true) from by simp)]
        have fin : wpAny (model X.prog X.w) X.A (setFlight (.ref a) X.env.frame) (fun _ s4 => wpAny (model X.prog X.w) X.A (throw (.ref a) : Sem Flow) (SP X pins D) X.xe s4) X.xe { s' with heap := h3 } := by
          rw [hf]
          refine HandSPX.setFlight_upZ fl3 fun h4 hh4 up4 => wpAny_throw (tk _ _ ?_)
          exact ⟨a, B, sI, pins, σ', H', cls, d, rfl, J, nb, (up.trans up3).trans up4, .inr (.inr (by rw [hs]; exact hh4)), na, os, ag, w⟩
        first
          | exact wpAny_bind (wpAny_pure (wpAny_bind fin))
          | exact wpAny_bind fin
      | @bare x c ts b₀ suite np pos' hds2 l2 hc hsu r ih =>
        intro w
        obtain ⟨b, hb1, hw⟩ := w
        refine wpAny_handleBy_cons (codeAny_handlers_test ?_) (by intro q; cases q)
        have LM := PySem.W.exm_one (M := model X.prog X.w) (J3.kIn) LT hb1
        refine test hc (LM.here ?_)
        cases b with
        | true =>
          refine codeAny_handlers_suite ?_
          refine HandSPX.lands_againZ fl3 fun h4 fl4 up4 => ?_
          have J4 : Inv X pins σ' H' { s' with heap := h4 } := J.landed nb fl4.1 ((up.trans up3).trans up4) os ag
          obtain ⟨oe4, vs4, he4, hz4, hd4⟩ := fl4.there
          have S4 := J4.suite he4 hd4 na nL nF
          refine wpAny_mono ((hsu a oe4 cls d (X.pn ++ pins) hz4 ⟨_, hd4⟩).run [] _ _ H' _ S4 (hw a na)) (fun f s6 hsp => ?_) (fun _ _ z => False.elim z)
          cases f with
          | next =>
            obtain ⟨σ6, H6, S6, q6⟩ := hsp
            exact ⟨_, _, S6.unsuite ok, q6⟩
          | brk =>
            obtain ⟨σ6, H6, S6, q6⟩ := hsp
            exact ⟨_, _, S6.unsuite ok, q6⟩
          | cont =>
            obtain ⟨σ6, H6, S6, q6⟩ := hsp
            exact ⟨_, _, S6.unsuite ok, q6⟩
          | ret u =>
            obtain ⟨v6, σ6, H6, S6, r6, q6⟩ := hsp
            exact ⟨_, _, _, S6.unsuite ok, r6, q6⟩
        | false =>
          show wpAny _ X.A (handleBy (.ref a) X.env hds2) _ _ _
          exact ih hw
      | @as x n c i ts b₀ suite np pos' hds2 l2 hc hi hln hsu r ih =>
        intro w
        obtain ⟨b, hb1, hw⟩ := w
        have hloc : Loc X.env.scope n := .inl hln
        refine wpAny_handleBy_cons (codeAny_handlers_test ?_) (by intro q; cases q)
        have LM := PySem.W.exm_one (M := model X.prog X.w) (J3.kIn) LT hb1
        refine test hc (LM.here ?_)
        cases b with
        | true =>
          refine codeAny_handlers_suite_as ?_
          refine HandSPX.lands_againZ fl3 fun h4 fl4 up4 => ?_
          have J4 : Inv X pins σ' H' { s' with heap := h4 } := J.landed nb fl4.1 ((up.trans up3).trans up4) os ag
          obtain ⟨oe4, vs4, he4, hz4, hd4⟩ := fl4.there
          have S4 := J4.suite he4 hd4 na nL nF
          refine store_ok (X := X.suite a ((a, oe4) :: (X.pn ++ pins))) (v := .ref a) S4 hN hi hloc rfl (fun s5 S5 => ?_) (.inr hln)
          refine wpAny_mono ((hsu a oe4 cls d (X.pn ++ pins) hz4 ⟨_, hd4⟩).run [] s5 _ H' _ S5 (hw a na)) (fun f s6 hsp => ?_) (fun _ _ z => False.elim z)
          have end_ : ∀ {σ6 : St} {H6 : Hp} {Q : Shared → Prop}, Inv (X.suite a ((a, oe4) :: (X.pn ++ pins))) [] σ6 H6 s6 → (∀ s7, Inv X pins (σ6.set i none) H6 s7 → Q s7) →
              wpAny (model X.prog X.w) X.A (do bindName X.env n .none; unbindBehindTheSuite X.env n pos') (fun _ s7 => Q s7) X.xe s6 := fun {σ6 H6 Q} S6 hq => gone_ok (S6.unsuite ok) hN hi hln hq
          cases f with
          | next =>
            obtain ⟨σ6, H6, S6, q6⟩ := hsp
            exact end_ S6 fun s7 J7 => ⟨_, _, J7, q6⟩
          | brk =>
            obtain ⟨σ6, H6, S6, q6⟩ := hsp
            exact end_ S6 fun s7 J7 => ⟨_, _, J7, q6⟩
          | cont =>
            obtain ⟨σ6, H6, S6, q6⟩ := hsp
            exact end_ S6 fun s7 J7 => ⟨_, _, J7, q6⟩
          | ret u =>
            obtain ⟨v6, σ6, H6, S6, r6, q6⟩ := hsp
            exact end_ S6 fun s7 J7 => ⟨_, _, _, J7, r6, q6⟩
        | false =>
          show wpAny _ X.A (handleBy (.ref a) X.env hds2) _ _ _
          exact ih hw
    exact go hh w
  · cases f with
    | next =>
      obtain ⟨σ', H', J', q⟩ := hsp
      exact wpAny_execs_nil ⟨σ', H', J'.ofTry ok, q⟩
    | brk =>
      obtain ⟨σ', H', J', q⟩ := hsp
      exact ⟨σ', H', J'.ofTry ok, q⟩
    | cont =>
      obtain ⟨σ', H', J', q⟩ := hsp
      exact ⟨σ', H', J'.ofTry ok, q⟩
    | ret u =>
      obtain ⟨v, σ', H', J', r, q⟩ := hsp
      exact ⟨v, σ', H', J'.ofTry ok, r, q⟩
end

/-! ### asked in a suite -/
/-- isinstance(e, c) -/
def rIsX (K : PySem.W.Frag) (a : Addr) (cls : Value) (d : Option Addr) : List V → Hp → VK → Prop := fun xs H Q => ∃ (D : Addr) (c : V) (cv : Value) (b : Bool), xs = [.ref a, c] ∧ cls = .ref D ∧ ExcC K D ∧ (∀ u, RelV c u → u = cv) ∧ PySem.W.kitOne K (.ref D) cv = some b ∧
  (∀ dd, d = some dd → ∃ fs, H dd = some (.xd fs)) ∧ Q (.bl b) H
theorem call_isX {X : Cx} {a : Addr} {oe : Obj} {cls : Value} {d : Option Addr} {pn : List (Addr × Obj)} (hz : Zc cls d oe) (hf : ∃ vs, oe.data = .fields vs) : CallR (X.suite a ((a, oe) :: pn)) (.builtin "isinstance") (rIsX X.K a cls d) := by
  intro pins s σ H xs us Q I r h
  obtain ⟨D, c, cv, b, rfl, rfl, C, hcv, e, hdd, q⟩ := h
  cases r with
  | cons rx rr =>
    cases rr with
    | cons rt rr =>
      cases rr
      cases rx
      have ec := hcv _ rt
      subst ec
      obtain ⟨hget, _⟩ := I.pin (a, oe) (List.mem_append.mpr (.inl List.mem_cons_self))
      obtain ⟨vs, hv⟩ := hf
      have hcl : (PySem.W.clsIn X.K D).isSome = true := by
        have h := C.hd
        unfold PySem.W.hasDictIn at h
        cases q : PySem.W.clsIn X.K D with
        | some _ => rfl
        | none => rw [q] at h; cases h
      have go : ∀ {od : Option Obj}, PySem.W.InstAt s.heap a oe D od → _ := fun {od} J =>
        PySem.W.kia_one (prog := X.prog) (w := X.w) (A := (X.suite a ((a, oe) :: pn)).A) (E := (X.suite a ((a, oe) :: pn)).xe) (Q := EP (X.suite a ((a, oe) :: pn)) pins σ Q) (PySem.W.kitx_exc (od := od) hcl C.hg C.hk C.hs C.ha C.hn C.ht C.hm) I.kIn J e (fun z => nomatch z) fun tk => ⟨.bl b, H, I.kept (t' := tk) fun _ _ z => z, rfl, q⟩
      cases d with
      | none => exact go (od := none) ⟨hget, hz.1, by unfold PySem.W.notCls; rw [hv] <;> rfl, by rw [hz.2]; trivial⟩
      | some dd =>
        obtain ⟨fs, ed⟩ := hdd dd rfl
        have hx : ObjOk X.prog X.w H s.heap dd (.xd fs) := I.hok dd _ ed
        obtain ⟨mA, ⟨od, _, _, ho, _⟩, _⟩ := hx
        exact go (od := some od) ⟨hget, hz.1, by unfold PySem.W.notCls; rw [hv] <;> rfl, by rw [hz.2]; exact ho⟩
/-- e.f -/
def tXg (K : PySem.W.Frag) (a : Addr) (cls : Value) (d : Option Addr) (f : Str) (te : TE) : TE := fun σ H Q => te σ H fun x H1 => x = .ref a ∧ ∃ (C dd : Addr) (fs : List Str) (kvs : List (Str × V)) (v : V), cls = .ref C ∧ XC K C fs ∧ f ∈ fs ∧ d = some dd ∧ H1 dd = some (.xd kvs) ∧ kvs.lookup f = some v ∧ Q v H1
theorem pe_xg {X : Cx} {a : Addr} {oe : Obj} {cls : Value} {d : Option Addr} {pn : List (Addr × Obj)} {e : Expr} {te : TE} {pos : Pos} {n : Str}
    (hz : Zc cls d oe) (hf : ∃ vs, oe.data = .fields vs) (he : PE (X.suite a ((a, oe) :: pn)) e te) (hb : attributeBase e n X.env (eval e X.env) = eval e X.env := by rfl) :
    PE (X.suite a ((a, oe) :: pn)) (.Attribute e n pos) (tXg X.K a cls d n te) := by
  refine ⟨fun pins s σ H Q I h => ?_⟩
  refine attr_of hb (thn (he.run pins s σ H _ I h) fun u s1 hh => ?_)
  obtain ⟨x, H1, I1, rx, ex, C, dd, fs, kvs, v, ec, xc, hm, ed, ea, l, q⟩ := hh
  subst ex
  obtain rfl : u = Value.ref a := rx
  subst ec
  subst ed
  obtain ⟨ha, _⟩ := I1.pin (a, oe) (List.mem_append_left _ List.mem_cons_self)
  obtain ⟨vs, hd⟩ := hf
  have hx : ObjOk X.prog X.w H1 s1.heap dd (.xd kvs) := I1.hok dd _ ea
  obtain ⟨mA, hns, hr⟩ := hx
  obtain ⟨od, ho, hl⟩ := lookIn_ns hns
  obtain ⟨u, hu, ru⟩ := RelO.some_of (v := v) (o := mA n) (by rw [← l]; exact hr n)
  have J : PySem.W.InstAt s1.heap a oe C (some od) := ⟨ha, hz.1, by unfold PySem.W.notCls; rw [hd] <;> rfl, by rw [hz.2]; exact ho⟩
  exact HandSPX.exc_get I1.kIn J xc.x.ga xc.x.gg xc.x.exC (PySem.W.findObj_own xc.x.hdC (xc.no n hm) rfl (by rw [hl, hu])) (handed_of ru) ⟨v, H1, I1.tok _, ru, q⟩
/-- what leaves a def -/
theorem tkE {P : Program} {w : World} {K : PySem.W.Frag} {mg : Str → Option Value} {base : Heap} {N : List Str} {qual : Str} {sc : Scope} {f : Addr} {cdv : Value} {A : Around} {outer : List Env} {s : Shared} {H : Hp} {E : XK} :
    Takes (cxOf (L2.CX P w) P w K mg base N qual sc f cdv A outer s H E) (fun cls d _ H => E cls d H) := takes_of rfl rfl rfl rfl
/-! ### the Hook: the kit's facts, one Bool more, and the statics among what is read -/
def frY (g : Addr → Option Obj) (n : Nat) : PySem.W.Frag := He.frT g (cStatics :: He.asD g n)
def obsY (n : Nat) (fa : List He.Fa) (fn : List He.DefD) (ex : PySem.W.Frag → Bool) (g : Addr → Option Obj) : He.AlD × Bool := (He.obsD fa fn (frY g n), ex (frY g n))
def hookY (n : Nat) (fa : List He.Fa) (fn : List He.DefD) (ex : PySem.W.Frag → Bool) : PySem.W.Hook where
  α := He.AlD × Bool
  obs := fun s => obsY n fa fn ex s.heap.get?
  val := fun _ => (He.valD fn, true)
  says := fun _ h => ∃ K : PySem.W.Frag, K.In h ∧ He.SaysD fa fn K ∧ ex K = true
  of := fun _ _ e => ⟨_, He.frT_in, congrArg Prod.fst e, congrArg Prod.snd e⟩
  keeps := fun _ _ _ ⟨K, hK, c⟩ k => ⟨K, PySem.W.Frag.In.keeps hK k, c⟩
theorem obsY_eq {n : Nat} {fa : List He.Fa} {fn : List He.DefD} {ex : PySem.W.Frag → Bool} {g : Addr → Option Obj} {s : Shared} (h : ∀ a, g a = s.heap.get? a) : obsY n fa fn ex g = (hookY n fa fn ex).obs s := by
  have e : g = s.heap.get? := funext h
  rw [e] <;> rfl
end FG

/-! GHo: C.m(self, ..) of an own class; d.pop(t) of a dict with tuple keys; d.values() of such a (locked) dict. Own layer over HandS. -/
namespace FG
open PySem PySem.Spec L2
open PyProof.Rows hiding St

/-! ### C.m(e, ..) -/
/-- what the written part says: C.m is the def at f -/
structure UnbK (K : PySem.W.Frag) (C : Addr) (m : Str) (f : Addr) : Prop where
  r : PySem.W.readsIn K C (.type "type") = true
  e : PySem.W.findCls K (.ref C) (.type "type") m = some (.val (.ref f))
  t : PySem.W.typeIn K (.ref C) = some (.type "type")
/-- what isinstance asks of an own class's instances -/
structure TyK (K : PySem.W.Frag) (D : Addr) : Prop where
  ha : PySem.W.findIn K (.ref D) "__class__" = some (some (.builtin "object.__class__"))
  hn : PySem.W.specialIn K (.builtin "object.__class__") "__get__" = some (some (.builtin "getset_descriptor.__get__"))
  htk : PySem.W.takesIn K (.builtin "object.__class__") = some true
  hm : PySem.W.mroIn K D (.type "object") = some true
def tyB (K : PySem.W.Frag) (D : Addr) : Bool := decide (PySem.W.findIn K (.ref D) "__class__" = some (some (.builtin "object.__class__"))) && (decide (PySem.W.specialIn K (.builtin "object.__class__") "__get__" = some (some (.builtin "getset_descriptor.__get__"))) &&
  (decide (PySem.W.takesIn K (.builtin "object.__class__") = some true) && decide (PySem.W.mroIn K D (.type "object") = some true)))
theorem tyB_ok {K : PySem.W.Frag} {D : Addr} (h : tyB K D = true) : TyK K D := by
  unfold tyB at h
  obtain ⟨h1, h⟩ := ba2 h
  obtain ⟨h2, h⟩ := ba2 h
  obtain ⟨h3, h4⟩ := ba2 h
  exact ⟨of_decide_eq_true h1, of_decide_eq_true h2, of_decide_eq_true h3, of_decide_eq_true h4⟩
theorem TyK.ins {K : PySem.W.Frag} {D a dx : Addr} {fs : List (Str × V)} {H : Hp} (t : TyK K D) (cl : Cls K D) (e : H a = some (.ins D dx fs)) : TyX K H (.ref a) (.ref D) := .base (.ins e cl t.ha t.hn t.htk t.hm)
def unbB (K : PySem.W.Frag) (C : Addr) (m : Str) (f : Addr) : Bool := PySem.W.readsIn K C (.type "type") && ((match PySem.W.findCls K (.ref C) (.type "type") m with
  | some (.val v) => decide (v = .ref f)
  | _ => false) && decide (PySem.W.typeIn K (.ref C) = some (.type "type")))
theorem unbB_ok {K : PySem.W.Frag} {C f : Addr} {m : Str} (h : unbB K C m f = true) : UnbK K C m f := by
  unfold unbB at h
  obtain ⟨h1, h⟩ := ba2 h
  obtain ⟨h2, h3⟩ := ba2 h
  refine ⟨h1, ?_, of_decide_eq_true h3⟩
  split at h2
  · rename_i v e
    rw [e, of_decide_eq_true h2]
  · cases h2
theorem getm_cls {prog : Program} {w : World} {A : Around} {E : Value → Shared → Prop} {s : Shared} {K : PySem.W.Frag} {C f : Addr} {m : Str} {pl : Sem Bool} {Q : Value × List Value → Shared → Prop} (X : K.In s.heap) (t : UnbK K C m f)
    (h : Q (.ref f, []) { s with toks := s.toks + 1 }) : wpAny (model prog w) A (getMethod (.ref C) m pl) Q E s := by
  have L0 : PySem.W.Looks (model prog w) s.heap (typeOf (.ref C)) (.type "type") := PySem.W.looks_typeIn X t.t
  have hg : PySem.W.findIn K (.type "type") "__getattribute__" = some (some (.builtin "type.__getattribute__")) := by
    have := t.r
    simp only [PySem.W.readsIn, Bool.and_eq_true, beq_iff_eq] at this
    exact this.1.1.2
  unfold getMethod specialOf
  refine wpAny_bind (wpAny_bind (L0.here ((PySem.W.looks_findIn X hg).here ?_)))
  dsimp only
  rw [if_pos PySem.W.canon_tga]
  refine wpAny_bind (wpAny_mono (Q := fun v => Q (v, [])) (E := E) ?_ (fun _ _ z => wpAny_pure z) fun _ _ z => z)
  exact PySem.W.cls_value X t.r t.e rfl h
/-- C.m of the module keeps sp -/
structure Unb (P : Program) (w : World) (K : PySem.W.Frag) (mg : Str → Option Value) (base : Heap) (k : Nat) (x m : Str) (sp : Sp) : Prop where
  ex : ∃ (C f : Addr) (fd : FuncData) (ps : List Str), UnbK K C m f ∧ FnG P w K mg base k f fd ps sp ∧ Binds K fd ps [] ∧ mg x = some (.ref C) ∧ PySem.W.keepIn K (.ref f) = true
theorem Unb.of {P : Program} {w : World} {K : PySem.W.Frag} {mg : Str → Option Value} {base : Heap} {k : Nat} {x m n q : Str} {C f : Addr} {ps : List Str} {st : Stmt} {sp : Sp} (u : UnbK K C m f) (g : mg x = some (.ref C)) (F : ∃ fd, Fun K n q st f fd)
    (b : ∀ {fd}, Fun K n q st f fd → Binds K fd ps []) (h : ∀ {fd}, Fun K n q st f fd → FnG P w K mg base k f fd ps sp) : Unb P w K mg base k x m sp :=
  let ⟨fd, z⟩ := F; ⟨C, f, fd, ps, u, h z, b z, g, z.kp⟩
section
variable {X : Cx} {k : Nat} {sp : Sp} {W : WX} {x m : Str} {np pos apos : Pos} {e : Expr} {es : List Expr} {t : TA}
theorem gu {pl : Sem Bool} (c : Unb X.prog X.w X.K X.mg X.base k x m sp) (hr : RG k X.A) (tk : Takes X W) (ha : PA X (e :: es) t) (hg : Gl X x := by rfl) (hdb : (x == ("__debug__" : Str)) = false := by decide)
    (hst : starEach (e :: es) X.env = (false, eval e X.env) :: starEach es X.env := by rfl) (hpl : (backTo pos (starEach es X.env)).any (·.1) = false := by rfl)
    (ht : eval (.Call (.Attribute (.Name x np) m apos) (e :: es) [] pos) X.env = (do let ov ← eval (.Name x np) X.env; standAt apos.atName; let (f, first) ← holding [ov] (getMethod ov m pl); callWith pos f first (backTo pos (starEach (e :: es) X.env)) (backToKw pos (keywordEach [] X.env))) := by rfl) :
    PE X (.Call (.Attribute (.Name x np) m apos) (e :: es) [] pos) (tG sp W t) := by
  obtain ⟨C, f, fd, ps, u, F, hb, hm, hk⟩ := c.ex
  refine ⟨fun pins s σ H Q I h => PySem.W.methodCall_KW (pl := pl) (ld_glob I hg hm ?_ hdb) ht⟩
  refine getm_cls I.kIn u ?_
  have I2 : Inv X pins σ H { s with toks := s.toks + 1 } := I.tok _
  refine PySem.W.callWith_K (first := []) (h₀ := X.base) I2.ok.mod.kin hk (thn (ha.run pos pins { s with toks := s.toks + 1 } σ H _ I2 h) fun us s2 ⟨vs, H2, I3, r, q2⟩ => ⟨I3.kIn, ?_⟩) hst hpl
  exact runs F hr hb tk I3 r q2
end

/-! ### d.pop(t), t there -/
def rPopT1 : V → List V → Hp → VK → Prop := fun x xs H Q => ∃ (a : Addr) (kvs : List (List L2.Key × V)) (k : List L2.Key) (b : Addr) (v : V), x = .ref a ∧ xs = [.ref b] ∧ H a = some (.dT kvs) ∧ H b = some (.tup (k.map kV)) ∧
  valV kvs k = some v ∧ Q v (upd H a (.dT (dropK kvs k)))
theorem mt_popT1 {X : Cx} (hu : X.A.units + 1 < cLine) : MtR X "dict.pop" rPopT1 := by
  intro pins s σ H x xs v us Q I rx rxs h
  obtain ⟨a, kvs, k, b, v0, rfl, rfl, ha, hb, hv, q⟩ := h
  cases rx
  rw [Vals.ref1 rxs]
  obtain ⟨z, hd, xs', rel, dd⟩ := dt_of I.hok ha
  have hz : xs'.length ≤ sizeLine := by rw [← Paired.length rel]; exact z
  have r := rel.val k
  rw [hv] at r
  obtain ⟨p, hp, rv⟩ : ∃ p, atKey xs' k = some p ∧ RelV v0 p.2 := by
    cases ev : atKey xs' k with
    | none => rw [ev] at r; exact (show False from r).elim
    | some p => rw [ev] at r; exact ⟨p, rfl, r⟩
  refine call_pop_heap (knd := tupleKind (mixKind X.prog X.w)) (k := k) (.inl rfl) (PySem.F.args_dict_pop_2 _ _) (tupleKind_room_in1 hu) (key_of I.hok hb) hd dd hp (fun h' dd' hs => ?_) hz
  obtain ⟨o, es, ep, hq, h2, h3, h4, _, h5⟩ := dd'
  have I2 : Inv X pins σ (upd H a (.dT (dropK kvs k))) { s with heap := h', toks := s.toks + (tupleKind (mixKind X.prog X.w)).draws k } :=
    d_write I (by rw [ha]; exact True.intro) hs ⟨o, hq⟩ ⟨Nat.le_trans (dropK_le kvs k) z, hd, _, (L2.DX.KT_drop k rel).keeps (fun c ys ec => (by rw [upd_ne (ne_of ec ha (fun z => nomatch z))]; exact ec)), o, es, ep, hq, h2, h3, h4, h5⟩
  exact ⟨v0, _, I2, rv, q⟩

/-! ### for v in d.values(), d locked, its keys tuples -/
def Itvt (d : Addr) (o : Obj) (kvs : List (List L2.Key × V)) : It :=
  ⟨fun i H => H d = some (.frz o (.dT kvs)) ∧ i < kvs.length, fun i H x H' => H' = H ∧ ∃ k, kvs[i]? = some (k, x), fun i H => H d = some (.frz o (.dT kvs)) ∧ kvs.length ≤ i⟩
def iValsT (td : TE) : TI := fun σ H R => td σ H fun x H1 => ∃ d o kvs, x = .ref d ∧ H1 d = some (.frz o (.dT kvs)) ∧ R (Itvt d o kvs) H1
section
variable {X : Cx} {pins : List (Addr × Obj)} {σ : St} {H : Hp} {s : Shared} {d : Addr} {o : Obj}
theorem frzTv {kvs : List (List L2.Key × V)} (I : Inv X pins σ H s) (h : H d = some (.frz o (.dT kvs))) :
    (d == sysModules) = false ∧ s.heap.get? d = some o ∧ o.ExactDict ∧ ∃ (es : Array DictEntry) (ep : Nat), o.data = .dict es ep ∧ es.size = kvs.length ∧
      ∀ (i : Nat) (k : List L2.Key) (v : V), kvs[i]? = some (k, v) → ∃ en : DictEntry, es[i]? = some en ∧ RelV v en.val := by
  obtain ⟨hd, z, hs, xs, pr, o', es, ep, ho, hx, hdt, he, _⟩ := I.hok d _ h
  rw [hd] at ho
  cases ho
  refine ⟨hs, hd, hx, es, ep, hdt, ?_, fun i k v e => ?_⟩
  · have l1 : es.size = xs.length := size_of_entries he
    have l2 : kvs.length = xs.length := Paired.length pr
    omega
  · obtain ⟨b, hb, e1, e2, e3⟩ := paired_get pr e
    have q := entry_at he i
    rw [hb] at q
    exact ⟨_, q, e3⟩
theorem ep_eq {o : Obj} {es es' : Array DictEntry} {ep ep' : Nat} (h : o.data = .dict es ep) (h' : o.data = .dict es' ep') : es = es' ∧ ep = ep' := by
  rw [h] at h'; cases h'; exact ⟨rfl, rfl⟩
theorem turn_valsT {P : Program} {w : World} {K : PySem.W.Frag} {tg : Expr} {es : Array DictEntry} {ep : Nat} {kvs : List (List L2.Key × V)} (it : Addr) (hod : o.data = .dict es ep) : Turn P w K tg (Itvt d o kvs) [it] it (fun i h => h.get? it = some (DVw.valOb d i kvs.length ep)) where
  mem := by simp
  obj := fun i h st b hb => by
    have e : b = it := by simpa using hb
    subst e
    exact ⟨_, st, fun v z => by cases z⟩
  keep := fun i h h' st k => k it (by simp) _ st
  item := by
    intro X hP hw hK hc i pins s σ H E I hf st hg
    subst hP hw hK
    obtain ⟨hd, hi⟩ := hg
    obtain ⟨f0, f1, f2, f3, f4, f5⟩ := hf it (by simp)
    obtain ⟨hs, hgd, hx, es', ep', hdt, hsz, ent⟩ := frzTv I hd
    obtain ⟨rfl, rfl⟩ := ep_eq hod hdt
    obtain ⟨⟨k, v⟩, hkv⟩ : ∃ p, kvs[i]? = some p := ⟨kvs[i], List.getElem?_eq_getElem hi⟩
    obtain ⟨en, hen, rv⟩ := ent i k v hkv
    refine DVw.val_item st hgd hdt hsz hen fun h' st' sb => ?_
    have I1 : Inv X pins σ H { s with heap := h' } := I.turned (t' := s.toks) (fun b ob hb e => (sb.2 b hb).trans e) f0 f1 f3 f4 f5
    exact ⟨en.val, rfl, go_of (s := { s with heap := h' }) st' rfl rfl (by decide) ⟨v, H, I1, rv, ⟨rfl, k, hkv⟩, st', fun b hb => (hf b hb).1⟩⟩
  done := by
    intro X hP hw hK hc i pins s σ H E I hf st hg
    subst hP hw hK
    obtain ⟨hd, hi⟩ := hg
    obtain ⟨f0, f1, f2, f3, f4, f5⟩ := hf it (by simp)
    obtain ⟨hs, hgd, hx, es', ep', hdt, hsz, ent⟩ := frzTv I hd
    obtain ⟨rfl, rfl⟩ := ep_eq hod hdt
    exact DVw.val_end (I.ok.hd hc) st hgd hdt hsz (Array.getElem?_eq_none (by omega)) fun h' eb => ⟨rfl, I.turned (t' := s.toks) (fun b ob hb e => eb b ob hb e) f0 f1 f3 f4 f5⟩
  self := fun A i s Q E st h => wpAny_pyIter_valiter (d := d) (i := i) (n := kvs.length) (ep := ep) ⟨_, st, rfl, rfl⟩ h
theorem meetsVals {prog : Program} {w : World} {d : Addr} {es : Array DictEntry} {ep : Nat} (hd : (d == sysModules) = false) :
    MeetsIn prog w (Builtin.«dict.values» ⟨[.ref d], []⟩) (fun _ R s => DT.Raw s.heap d es ep ∧
      R (.ok (.ret (.ref s.heap.objs.size))) { s with heap := s.heap.push { cls := .type "dict_values", data := .fields #[.ref d] } }) :=
  .of_wp fun A R s ⟨hm, h⟩ => by
    show wpAny _ _ (Builtin.Dict.noArgs "values" ⟨[.ref d], []⟩ >>= _) _ _ s
    refine wpAny_bind ?_
    unfold Builtin.Dict.noArgs
    refine wpAny_bind (wpAny_notOrdered_dict hm.typeIs ?_)
    show wpAny _ _ (pure d) _ _ s
    refine wpAny_pure ?_
    show wpAny _ _ (Builtin.Dict.showsAll d >>= _) _ _ s
    unfold Builtin.Dict.showsAll
    rw [if_neg (by rw [hd]; exact Bool.false_ne_true)]
    refine wpAny_bind (wpAny_pure ?_)
    exact wpAny_bind (wpAny_newObj_type (wpAny_pure ⟨_, rfl, h⟩))
end
theorem pi_valuesT {X : Cx} {tg e : Expr} {td : TE} {apos cpos : Pos} (he : PE X e td) (hbase : attributeBase e "values" X.env (eval e X.env) = eval e X.env := by rfl) (hline : (apos.endLine == cpos.line) = true := by rfl) : PI X tg (.Call (.Attribute e "values" apos) [] [] cpos) (iValsT td) := by
  refine ⟨fun pins s σ H R I h => ?_⟩
  refine wpAny_Call_method (T := "dict") (id := "dict.values") hbase rfl hline F.plainAttrs_dict F.slot_dict_values F.type_dict_values (thn (he.run pins s σ H _ I h) fun u s1 ⟨x, H1, I1, rx, d, o, kvs, ex, hd, q⟩ => ?_)
  subst ex
  obtain rfl : u = Value.ref d := rx
  obtain ⟨hs, hgd, hx, es, ep, hdt, hsz, ent⟩ := frzTv I1 hd
  have hm : DT.Raw s1.heap d es ep := ⟨o, hgd, hx, hdt⟩
  refine ⟨hm.typeIs, (fun b e => by injection e with e; subst e; exact ⟨o, hgd, hx.2.1⟩), ?_⟩
  have I2 : Inv X pins σ H1 { s1 with heap := s1.heap.push { cls := .type "dict_values", data := .fields #[.ref d] } } := I1.kept (t' := s1.toks) fun b ob q => Heap.get?_push_of_some _ q
  have fin : wpAny (model X.prog X.w) X.A (pyIter (.ref s1.heap.objs.size)) (PIE X pins σ tg R) X.xe { s1 with heap := s1.heap.push { cls := .type "dict_values", data := .fields #[.ref d] } } := by
    refine DSub.iter_vals (a := d) (es := es) (ep := ep) (ob := o) (Heap.get?_push_size _ rfl) (Heap.get?_push_of_some _ hgd) hdt ?_
    rw [hsz]
    exact pi_one (tk := s1.toks) I2 _ (turn_valsT _ hdt) (Heap.get?_push_size _ rfl) q
  show wpAny _ _ (callWith cpos (.builtin "dict.values") [.ref d] [] []) _ X.xe s1
  exact method_meetsIn F.slot_dict_values F.entry_dict_values rfl (PySem.evalArgs_none ⟨rfl, hm.typeIs, F.args_dict_values_1 _, _, meetsVals (es := es) (ep := ep) hs, hm, fin⟩)
theorem walk_valsT {d : Addr} {o : Obj} {kvs : List (List L2.Key × V)} : Walk (Itvt d o kvs) kvs.length (fun H => H d = some (.frz o (.dT kvs))) (fun i H x H' => H' = H ∧ ∃ k, kvs[i]? = some (k, x)) :=
  ⟨fun _ _ hi q => ⟨q, hi⟩, fun _ q => ⟨q, Nat.le_refl _⟩, fun _ _ _ _ _ _ y => y⟩
/-! ### xs[a:b:c] -/
def tSl3 (K : PySem.W.Frag) (te : TE) (tl th ts : TO) : TE := fun σ H Q => te σ H fun x H1 => tl σ H1 fun l H2 => th σ H2 fun u H3 => ts σ H3 fun c H4 => ∃ a xs, x = .ref a ∧ SqL K H4 a xs ∧ c ≠ some 0 ∧
  ∀ p ys, H4 p = none → (∀ y ∈ ys, y ∈ xs) → ys.length ≤ xs.length → Q (.ref p) (upd H4 p (.lst ys))
theorem pick_vals {xs : List V} {its : List Value} (r : Vals xs its) : ∀ idx : List Nat, ∃ ys, Vals ys (idx.filterMap (its.toArray[·]?)) ∧ (∀ y ∈ ys, y ∈ xs) := by
  intro idx
  induction idx with
  | nil => exact ⟨[], .nil, fun y h => by cases h⟩
  | cons i idx ih =>
    obtain ⟨ys, h1, h2⟩ := ih
    cases e : xs[i]? with
    | none =>
      have l1 : xs.length ≤ i := List.getElem?_eq_none_iff.mp e
      have e2 : its.toArray[i]? = none := by
        rw [List.getElem?_toArray]
        exact List.getElem?_eq_none_iff.mpr (by rw [← r.length]; exact l1)
      exact ⟨ys, by rw [List.filterMap_cons, e2]; exact h1, h2⟩
    | some x =>
      obtain ⟨b, hb, hx⟩ := paired_get r e
      have e2 : its.toArray[i]? = some b := by rw [List.getElem?_toArray]; exact hb
      refine ⟨x :: ys, by rw [List.filterMap_cons, e2]; exact .cons hx h1, fun y hy => ?_⟩
      rcases List.mem_cons.mp hy with z | z
      · subst z; exact List.mem_of_getElem? e
      · exact h2 y z
theorem pick_len {items : Array Value} {lo hi st : Option Int} : (slicePick items lo hi st).size ≤ items.size := by
  unfold slicePick
  rw [List.size_toArray]
  refine Nat.le_trans (List.length_filterMap_le _ _) ?_
  refine sliceRange_length_le _ _ _ _ (fun hp => ?_) (fun hm => ?_)
  · unfold sliceBounds at hp ⊢
    simp only at hp ⊢
    constructor
    · cases lo with
      | none => simp [hp]
      | some i => simp only [hp, if_true]; omega
    · cases hi with
      | none => simp [hp]
      | some i => simp only [hp, if_true]; omega
  · unfold sliceBounds at hm ⊢
    simp only at hm ⊢
    constructor
    · cases lo with
      | none => simp [hm]
      | some i => simp only [hm, if_false]; omega
    · cases hi with
      | none => simp [hm]
      | some i => simp only [hm, if_false]; omega
theorem pe_sl3 {X : Cx} {e : Expr} {lo hi st : Option Expr} {te : TE} {tl th ts : TO} {p3 pos : Pos} (he : PE X e te) (hl : PO X lo tl) (hh : PO X hi th) (hst : PO X st ts)
    (hsub : ∀ a b : Addr, subscripted (.Slice lo hi st p3) false (.ref a) (.ref b) = operate [.ref a, .ref b] (getItem (.ref a) (.ref b)) := by intro _ _; with_unfolding_all rfl) :
    PE X (.Subscript e (.Slice lo hi st p3) pos) (tSl3 X.K te tl th ts) := by
  refine ⟨fun pins s σ H Q I h => ?_⟩
  refine Subscript_ (thn (he.run pins s σ H _ I h) fun v s1 ⟨x, H1, I1, r1, q1⟩ => ?_)
  refine wpAny_Slice (thn (hl.run pins s1 σ H1 _ I1 q1) fun vl s2 ⟨l, H2, I2, pl, q2⟩ => ?_)
  refine thn (hh.run pins s2 σ H2 _ I2 q2) fun vu s3 ⟨u, H3, I3, pu, q3⟩ => ?_
  refine thn (hst.run pins s3 σ H3 _ I3 q3) fun vs s4 ⟨o, H4, I4, ps, q4⟩ => ?_
  obtain ⟨a, xs, ex, hx, h0, q⟩ := q4
  subst ex
  cases r1
  have I5 : Inv X pins σ H4 { s4 with heap := s4.heap.push { cls := .type "slice", data := .fields #[vl, vu, vs] } } := I4.kept (t' := s4.toks) fun b ob q => Heap.get?_push_of_some _ q
  obtain ⟨its, r, ht, hz⟩ := I5.list hx
  have hlen := r.length
  show wpAny (model X.prog X.w) X.A (subscriptTail e (.Slice lo hi st p3) (.ref a) (.ref s4.heap.objs.size)) (EP X pins σ Q) X.xe { s4 with heap := s4.heap.push { cls := .type "slice", data := .fields #[vl, vu, vs] } }
  refine tail_any (ops := [.ref a, .ref s4.heap.objs.size]) ht.isList.typeIs (PySem.slot_list_getitem.lookup) ?_ (hsub _ _)
  refine wpAny_getItem_list_slice ht.isList (Heap.IsSliceOf.new _ vl vu vs) pl pu ps h0 ?_ (by rw [List.size_toArray]; omega)
  have hp := pick_len (items := its.toArray) (lo := l) (hi := u) (st := o)
  obtain ⟨ys, hy, hm⟩ := pick_vals r (sliceRange (sliceBounds l u o its.toArray.size).1 (sliceBounds l u o its.toArray.size).2.1 (sliceBounds l u o its.toArray.size).2.2)
  have hs : slicePick its.toArray l u o = ((sliceRange (sliceBounds l u o its.toArray.size).1 (sliceBounds l u o its.toArray.size).2.1 (sliceBounds l u o its.toArray.size).2.2).filterMap (its.toArray[·]?)).toArray := rfl
  rw [hs, List.size_toArray, ← hy.length, List.size_toArray, ← hlen] at hp
  rw [hs]
  refine ⟨.ref _, _, I5.laid (t' := s4.toks) (o := .lst ys) (fun b ob q => Heap.get?_push_of_some _ q) (Nat.le_refl _) ?_, rfl, q _ ys (I5.hok.fresh (Nat.le_refl _)) hm hp⟩
  exact ⟨Nat.le_trans hp hz, _, 0, hy, Heap.get?_push_size _ rfl⟩
theorem ksl3 (K : PySem.W.Frag) {X : Cx} {e : Expr} {lo hi st : Option Expr} {te : TE} {tl th ts : TO} {p3 pos : Pos} (he : PE X e te) (hl : PO X lo tl) (hh : PO X hi th) (hst : PO X st ts) (hK : X.K = K := by rfl)
    (hsub : ∀ a b : Addr, subscripted (.Slice lo hi st p3) false (.ref a) (.ref b) = operate [.ref a, .ref b] (getItem (.ref a) (.ref b)) := by intro _ _; with_unfolding_all rfl) :
    PE X (.Subscript e (.Slice lo hi st p3) pos) (tSl3 K te tl th ts) := by subst hK; exact pe_sl3 he hl hh hst hsub
/-! ### xs != [] -/
def rNeE (K : PySem.W.Frag) : R2 := fun x y H Q => ∃ a b xs, x = .ref a ∧ y = .ref b ∧ SqL K H a xs ∧ SqL K H b [] ∧ Q (.bl (!xs.isEmpty)) H
theorem kneE {X : Cx} (K : PySem.W.Frag) (hu : X.A.units + 64 < cLine) (hK : X.K = K := by rfl) : OpR X (compareOp .NotEq) (rNeE K) := by
  subst hK
  intro pins s σ H x y v u Q I rx ry h
  obtain ⟨a, b, xs, rfl, rfl, ha, hb, q⟩ := h
  cases (show v = Value.ref a from rx)
  cases (show u = Value.ref b from ry)
  obtain ⟨us, r1, p1, _⟩ := I.list ha
  obtain ⟨ws, r2, p2, _⟩ := I.list hb
  cases r2
  cases r1 with
  | nil => exact SeqAt.RcNeAt.lists (e := fun _ => true) p1.isList p2.isList rfl (by omega) (fun j h1 _ => absurd h1 (Nat.not_lt_zero j)) _ _ _ _ ⟨.bl false, H, I, rfl, q⟩
  | cons c d => exact SeqAt.RcNeAt.lists_lengths p1.isList p2.isList (by simp) (by omega) _ _ _ _ ⟨.bl true, H, I, rfl, q⟩
end FG

/-! GHot: a def that is called, within an except suite, with what was caught. Own layer over HandS. -/
namespace FG
open PySem PySem.Spec L2
open PyProof.Rows hiding St

/-- what is wanted, by the exception's address, class and fields -/
abbrev SpX := Addr → Value → Option Addr → List V → Hp → VK → Prop
structure FnX (P : Program) (w : World) (K : PySem.W.Frag) (mg : Str → Option Value) (base : Heap) (k : Nat) (f : Addr) (fd : FuncData) (ps : List Str) (sp : SpX) : Prop where
  len : ∀ a cls d vs H Q, sp a cls d vs H Q → vs.length = ps.length
  run : ∀ (A : Around) (outer : List Env) (s : Shared) (H : Hp) (args : Args) (us : List Value) (vs : List V) (Q : VK) (p : Addr × Obj) (cls : Value) (d : Option Addr), L2H.RoomH k A → Zc cls d p.2 → (∃ z, p.2.data = .fields z) → L2H.PinOk outer H s p → Env0 P w K mg base A outer s H →
    BindsTo s fd args (ps.zip us) → Vals vs us → sp p.1 cls d vs H Q → codeAny (model P w) A (.call (.ref f) args) (CR (L2.CX P w) outer P w H s Q fun _ _ _ => False) s
section
variable {P : Program} {w : World} {K : PySem.W.Frag} {mg : Str → Option Value} {base : Heap}
/-- a def of the text, by its body -/
theorem FnX.of {x qual : Str} {st : Stmt} {f : Addr} {fd : FuncData} {N ps : List Str} {k : Nat} {sp : SpX} (F : Fun K x qual st f fd) (S : FnScope N ps (defScope st)) (hn : ∀ a cls d vs H Q, sp a cls d vs H Q → vs.length = ps.length)
    (hb : ∀ (cdv : Value) (A : Around) (outer : List Env) (s : Shared) (H : Hp) (vs : List V) (Q : VK) (p : Addr × Obj) (cls : Value) (d : Option Addr), L2H.RoomH k (A.deeper (envOfC qual (defScope st) s.heap.objs.size f cdv)) → Zc cls d p.2 → (∃ z, p.2.data = .fields z) → sp p.1 cls d vs H Q →
      ∃ t, PSs (L2H.cxH (L2.CX P w) P w K mg base N qual (defScope st) f cdv A outer s H (fun _ _ _ => False) p) (defBody st) t ∧ t { nx := fun _ H' => Q .non H', rt := Q } (start N vs) H) : FnX P w K mg base (k + 1) f fd ps sp := by
  obtain ⟨oc, od, kV, doc, pm, an, cdv, ct, osl, rfl, lk, hcd⟩ := F.ex
  refine ⟨hn, fun A outer s H ar us vs Q p cls d hg hz hf hpin env0 bnd rel hsp => ?_⟩
  have len := hn _ _ _ _ _ _ hsp
  have inK : K.In s.heap := env0.mod.kin.keeps fun b o z => (env0.bs b o z).1
  have nol : s.heap.NoLimit := env0.mod.nolimit.keeps fun b o z => (env0.bs b o z).1
  have hk : ∀ y ∈ ps.zip us, (defScope st).names.lookup y.1 = some .local ∨ ((defScope st).names.lookup y.1 = some .cell ∧ ((cellsFrom (s.heap.objs.size + 1) (defScope st).names []).lookup y.1).isSome = true) := by
    rintro ⟨n, v⟩ hy
    exact (S.par n (List.of_mem_zip hy).1).elim .inl fun q => .inr ⟨q, PySem.W.cellsFrom_some _ _ _ (.inl q)⟩
  refine codeAny_call_function hg.depth (inK _ _ lk) rfl S.co S.gen rfl (PySem.W.codeRec_of inK hcd) (bnd _ _ _ _ ?_)
  refine wpAny_newFunctionEnv_cells S.kind hk fun env ee s1 inc => ?_
  subst ee
  refine ⟨nol.keeps inc.toInCall.keep, codeAny_func ?_⟩
  obtain ⟨t, ht, hq⟩ := hb cdv A outer s H vs Q p cls d (hg.deeper _) hz hf hsp
  have I0 : Inv (L2H.cxH (L2.CX P w) P w K mg base N qual (defScope st) f cdv A outer s H (fun _ _ _ => False) p) [] (start N vs) H s1 := L2H.inv_startH S hpin env0 len rel inc
  refine wpAny_mono (ht.run [] s1 (start N vs) H _ I0 hq) (fun fl s2 hs => ?_) fun _ _ hs => hs
  have fin : ∀ {σ2 : St} {H2 : Hp} {v : V} {u : Value}, Inv (L2H.cxH (L2.CX P w) P w K mg base N qual (defScope st) f cdv A outer s H (fun _ _ _ => False) p) [] σ2 H2 s2 → RelV v u → Q v H2 → CE outer P w H s Q u s2 := by
    intro σ2 H2 v u J rv q
    exact ⟨v, H2, J.os, J.bare, J.base, J.hok, rv, q⟩
  match fl, hs with
  | .ret u, ⟨v, σ2, H2, J, rv, q⟩ => exact fin J rv q
  | .next, ⟨σ2, H2, J, q⟩ => exact fin (v := V.non) (u := Value.none) J rfl q
  | .brk, ⟨_, _, _, q⟩ => exact q.elim
  | .cont, ⟨_, _, _, q⟩ => exact q.elim
/-- the module's def x, called with what was caught, keeps sp -/
structure CalX (P : Program) (w : World) (K : PySem.W.Frag) (mg : Str → Option Value) (base : Heap) (k : Nat) (x : Str) (sp : SpX) : Prop where
  ex : ∃ (f : Addr) (fd : FuncData) (ps : List Str), FnX P w K mg base k f fd ps sp ∧ mg x = some (.ref f) ∧ PySem.W.keepIn K (.ref f) = true ∧ Binds K fd ps []
theorem CalX.of {k : Nat} {x n q : Str} {f : Addr} {ps : List Str} {st : Stmt} {sp : SpX} (g : mg x = some (.ref f)) (F : ∃ fd, Fun K n q st f fd) (b : ∀ {fd}, Fun K n q st f fd → Binds K fd ps []) (h : ∀ {fd}, Fun K n q st f fd → FnX P w K mg base k f fd ps sp) : CalX P w K mg base k x sp :=
  let ⟨fd, z⟩ := F; ⟨f, fd, ps, h z, g, z.kp, b z⟩
end
section
variable {X : Cx} {k : Nat} {sp : SpX} {x : Str} {p pos : Pos} {e : Expr} {es : List Expr} {t : TA} {a : Addr} {oe : Obj} {cls : Value} {d : Option Addr} {pn : List (Addr × Obj)}
theorem gx (c : CalX X.prog X.w X.K X.mg X.base k x sp) (hr : RG k X.A) (hz : Zc cls d oe) (hf : ∃ z, oe.data = .fields z) (ha : PA (X.suite a ((a, oe) :: pn)) (e :: es) t) (hg : Gl X x := by rfl) (hdb : (x == ("__debug__" : Str)) = false := by decide)
    (he : starEach (e :: es) X.env = (false, eval e X.env) :: starEach es X.env := by rfl) (hpl : (backTo pos (starEach es X.env)).any (·.1) = false := by rfl) :
    PE (X.suite a ((a, oe) :: pn)) (.Call (.Name x p) (e :: es) [] pos) (fun σ H Q => t σ H fun vs H1 => sp a cls d vs H1 Q) := by
  obtain ⟨f, fd, ps, F, hm, hk, hb⟩ := c.ex
  refine ⟨fun pins s σ H Q I h => wpAny_Call_Name_kw (ld_glob (X := X.suite a ((a, oe) :: pn)) I hg hm ?_ hdb)⟩
  refine PySem.W.callWith_K (h₀ := X.base) I.ok.mod.kin hk (thn (ha.run pos pins s σ H _ I h) fun us s1 ⟨vs, H1, I1, r, q⟩ => ⟨I1.kIn, ?_⟩) he hpl
  have ln : us.length = ps.length := r.length.symm.trans (F.len _ _ _ _ _ _ q)
  have b := hb s1 us I1.kIn (by simpa using ln)
  rw [List.append_nil] at b
  have P1 := I1.pin (a, oe) (List.mem_append_left _ List.mem_cons_self)
  have hpin : L2H.PinOk X.stack H1 s1 (a, oe) := ⟨P1.1, P1.2.1, fun hm => (List.mem_cons.mp (I1.stkSub a hm)).elim P1.2.2.1 P1.2.2.2.1, P1.2.2.2.2⟩
  refine wpAny_call (codeAny_mono (F.run (X.A.mark (some (.ref a))) X.stack s1 H1 ⟨us, []⟩ us vs Q (a, oe) cls d ⟨hr.r.dp, hr.r.un⟩ hz hf hpin I1.env0 b r q) fun q s2 hq => ?_)
  match q, hq with
  | .error e, hq => exact passAt (X := X.suite a ((a, oe) :: pn)) takes0 σ pins H1 s1 e s2 I1 hq
  | .ok (.ret u), hq => exact I1.after hq
  | .ok .next, hq => exact hq.elim
  | .ok .brk, hq => exact hq.elim
  | .ok .cont, hq => exact hq.elim
end
/-! asked of it where it is known -/
section
variable {X : Cx} {a : Addr} {oe : Obj} {cls : Value} {d : Option Addr}
theorem call_isH (hz : Zc cls d oe) (hf : ∃ vs, oe.data = .fields vs) (hp : (a, oe) ∈ X.pn) : CallR X (.builtin "isinstance") (rIsX X.K a cls d) := by
  intro pins s σ H xs us Q I r h
  obtain ⟨D, c, cv, b, rfl, rfl, C, hcv, e, hdd, q⟩ := h
  cases r with
  | cons rx rr =>
    cases rr with
    | cons rt rr =>
      cases rr
      cases rx
      have ec := hcv _ rt
      subst ec
      obtain ⟨hget, _⟩ := I.pin (a, oe) (List.mem_append.mpr (.inl hp))
      obtain ⟨vs, hv⟩ := hf
      have hcl : (PySem.W.clsIn X.K D).isSome = true := by
        have h := C.hd
        unfold PySem.W.hasDictIn at h
        cases q : PySem.W.clsIn X.K D with
        | some _ => rfl
        | none => rw [q] at h; cases h
      have go : ∀ {od : Option Obj}, PySem.W.InstAt s.heap a oe D od → _ := fun {od} J =>
        PySem.W.kia_one (prog := X.prog) (w := X.w) (A := X.A) (E := X.xe) (Q := EP X pins σ Q) (PySem.W.kitx_exc (od := od) hcl C.hg C.hk C.hs C.ha C.hn C.ht C.hm) I.kIn J e (fun z => nomatch z) fun tk => ⟨.bl b, H, I.kept (t' := tk) fun _ _ z => z, rfl, q⟩
      cases d with
      | none => exact go (od := none) ⟨hget, hz.1, by unfold PySem.W.notCls; rw [hv] <;> rfl, by rw [hz.2]; trivial⟩
      | some dd =>
        obtain ⟨fs, ed⟩ := hdd dd rfl
        have hx : ObjOk X.prog X.w H s.heap dd (.xd fs) := I.hok dd _ ed
        obtain ⟨mA, ⟨od, _, _, ho, _⟩, _⟩ := hx
        exact go (od := some od) ⟨hget, hz.1, by unfold PySem.W.notCls; rw [hv] <;> rfl, by rw [hz.2]; exact ho⟩
theorem pe_xh {e : Expr} {te : TE} {pos : Pos} {n : Str} (hz : Zc cls d oe) (hf : ∃ vs, oe.data = .fields vs) (hp : (a, oe) ∈ X.pn) (he : PE X e te) (hb : attributeBase e n X.env (eval e X.env) = eval e X.env := by rfl) :
    PE X (.Attribute e n pos) (tXg X.K a cls d n te) := by
  refine ⟨fun pins s σ H Q I h => ?_⟩
  refine attr_of hb (thn (he.run pins s σ H _ I h) fun u s1 hh => ?_)
  obtain ⟨x, H1, I1, rx, ex, C, dd, fs, kvs, v, ec, xc, hm, ed, ea, l, q⟩ := hh
  subst ex
  obtain rfl : u = Value.ref a := rx
  subst ec
  subst ed
  obtain ⟨ha, _⟩ := I1.pin (a, oe) (List.mem_append_left _ hp)
  obtain ⟨vs, hd⟩ := hf
  have hx : ObjOk X.prog X.w H1 s1.heap dd (.xd kvs) := I1.hok dd _ ea
  obtain ⟨mA, hns, hr⟩ := hx
  obtain ⟨od, ho, hl⟩ := lookIn_ns hns
  obtain ⟨u, hu, ru⟩ := RelO.some_of (v := v) (o := mA n) (by rw [← l]; exact hr n)
  have J : PySem.W.InstAt s1.heap a oe C (some od) := ⟨ha, hz.1, by unfold PySem.W.notCls; rw [hd] <;> rfl, by rw [hz.2]; exact ho⟩
  exact HandSPX.exc_get I1.kIn J xc.x.ga xc.x.gg xc.x.exC (PySem.W.findObj_own xc.x.hdC (xc.no n hm) rfl (by rw [hl, hu])) (handed_of ru) ⟨v, H1, I1.tok _, ru, q⟩
end
theorem hotU {k : Nat} {A : Around} (h : L2H.RoomH k A) : A.units + 64 < cLine := by have := h.un; omega
/-! xs.count(True), xs all truths -/
def rCntB (K : PySem.W.Frag) : V → List V → Hp → VK → Prop := fun x xs H Q => ∃ (p : Addr) (bs : List Bool) (k : Bool), x = .ref p ∧ xs = [.bl k] ∧ SqL K H p (bs.map V.bl) ∧ Q (.int (bs.count k : Nat)) H
theorem kcntB {X : Cx} (K : PySem.W.Frag) (hu : X.A.units + 64 < cLine) (hK : X.K = K := by rfl) : MtR X "list.count" (rCntB K) := by
  subst hK
  intro pins s σ H x xs v us Q I rx rxs h
  obtain ⟨p, bs, k, rfl, rfl, hs, q⟩ := h
  cases rx
  obtain ⟨u, rfl, ru⟩ := rxs.one
  cases (show u = Value.bool k from ru)
  obtain ⟨its, rv, ⟨o, n, ho, hc, hdn, hd⟩, hlen⟩ := I.list hs
  have dp : ∀ bs : List Bool, DpAll X.K H (bs.map V.bl) (bs.map PyData.bool) := fun bs => by
    induction bs with
    | nil => exact .nil
    | cons b bs ih => exact .cons (.bl b) ih
  obtain ⟨as, rs⟩ := Dp.readsAll I _ _ its (dp bs) rv
  have e1 : ∀ bs : List Bool, (bs.map PyData.bool).countP (fun y => PyData.eqv y (.bool k)) = bs.count k := fun bs => by
    induction bs with
    | nil => rfl
    | cons b bs ih =>
      rw [List.map_cons, List.countP_cons, List.count_cons, ih]
      congr 1
  refine PySem.SeqAt.count_list_data (vs := its.toArray) (xs := bs.map PyData.bool) (d := .bool k) (bs := []) ⟨o, ho, hc, n, hd⟩ (by simpa using rs) (Reads.bool k) ?_ ?_ ?_ ?_
  · have pl : ∀ bs : List Bool, PyData.plainAll (bs.map PyData.bool) = true := fun bs => by
      induction bs with
      | nil => simp only [List.map_nil, PyData.plainAll]
      | cons b bs ih => simp only [List.map_cons, PyData.plainAll, PyData.plain, ih, Bool.and_self]
    exact pl bs
  · simp only [PyData.plain]
  · simp only [PyData.depth]; omega
  · rw [e1]
    exact ⟨.int (bs.count k : Nat), H, I.tok _, ⟨_, rfl⟩, q⟩
/-! [..], apart from the table of modules -/
def tLstN (t : TA) : TE := fun σ H Q => t σ H fun xs H1 => xs.length ≤ sizeLine ∧ ∀ p, H1 p = none → p ≠ sysModules → Q (.ref p) (upd H1 p (.lst xs))
theorem pe_lstN {X : Cx} {es : List Expr} {pos : Pos} {t : TA} (h : PA X es t) : PE X (.List es pos) (tLstN t) := by
  refine ⟨fun pins s σ H Q I hq => ?_⟩
  refine wpAny_List_spliced (thn (h.run pos pins s σ H _ I hq) fun us s1 ⟨xs, H1, I1, r, z, q⟩ => ⟨by rw [← r.length]; exact z, ?_⟩)
  have hf : H1 s1.heap.objs.size = none := I1.hok.fresh (Nat.le_refl _)
  refine ⟨.ref s1.heap.objs.size, upd H1 s1.heap.objs.size (.lst xs), I1.laid (t' := s1.toks) (fun b u e => Heap.get?_push_of_some _ e) (Nat.le_refl _) ?_, rfl, q _ hf (Nat.ne_of_gt I1.big)⟩
  exact ⟨z, us, 0, r, Heap.get?_push_size _ rfl⟩
/-! xs == ys: other lengths, or data -/
def rEqL (K : PySem.W.Frag) : R2 := fun x y H Q => (∃ a b xs ys, x = .ref a ∧ y = .ref b ∧ SqL K H a xs ∧ SqL K H b ys ∧ xs.length ≠ ys.length ∧ Q (.bl false) H) ∨ rEqD K x y H Q
theorem keqL {X : Cx} (K : PySem.W.Frag) (hu : X.A.units + 64 < cLine) (hK : X.K = K := by rfl) : OpR X (compareOp .Eq) (rEqL K) := by
  subst hK
  intro pins s σ H x y v u Q I rx ry h
  rcases h with ⟨a, b, xs, ys, rfl, rfl, ha, hb, hl, q⟩ | h
  · cases (show v = Value.ref a from rx)
    cases (show u = Value.ref b from ry)
    obtain ⟨us, r1, p1, _⟩ := I.list ha
    obtain ⟨ws, r2, p2, _⟩ := I.list hb
    exact SeqAt.RcAt.lists_lengths p1.isList p2.isList (by simpa [← r1.length, ← r2.length] using hl) (by omega) _ _ _ _ ⟨.bl false, H, I, rfl, q⟩
  · exact op_eqD hu pins s σ H x y v u Q I rx ry h
end FG

/-! GCut: ways that meet again; ladders of new objects. -/
namespace FG
open PySem PySem.Spec L2
open PyProof.Rows hiding St
section
variable {c : TT} {t u r : TS} {te : TE} {D : Ends} {σ : St} {H : Hp}
/-- if c: t else: u; then r: c's outcome first, told once -/
theorem cut_if (Post : Bool → Hp → Prop) (h : ∀ Q : Bool → Hp → Prop, (∀ b H', Post b H' → Q b H') → c σ H Q)
    (k : ∀ b H', Post b H' → if b = true then t { D with nx := r D } σ H' else u { D with nx := r D } σ H') : tSeq (tIfS c t u) r D σ H := h _ k
/-- the same, last in its block -/
theorem cut_if1 (Post : Bool → Hp → Prop) (h : ∀ Q : Bool → Hp → Prop, (∀ b H', Post b H' → Q b H') → c σ H Q)
    (k : ∀ b H', Post b H' → if b = true then t D σ H' else u D σ H') : tIfS c t u D σ H := h _ k
/-- a statement first, its end told once -/
theorem cut_seq (Post : St → Hp → Prop) (h : ∀ nx : St → Hp → Prop, (∀ σ' H', Post σ' H' → nx σ' H') → t { D with nx := nx } σ H) (k : ∀ σ' H', Post σ' H' → r D σ' H') : tSeq t r D σ H := h _ k
theorem cut_ret (Post : V → Hp → Prop) (h : ∀ Q : VK, (∀ v H', Post v H' → Q v H') → te σ H Q) (k : ∀ v H', Post v H' → D.rt v H') : tRet te D σ H := h _ k
theorem nx_next (h : D.nx σ H) : tNext D σ H := h
theorem nx_name {i : Nat} {v : V} {Q : St → Hp → Prop} (h : Q (σ.set i (some v)) H) : gName i v σ H Q := h
end
section
variable {X : Cx} {e : Expr} {ta : TA} {p pos tpos : Pos} {elts : List Expr} {kk : Nat}
theorem kiEnum (K : PySem.W.Frag) (hg : Gl X "enumerate") (hm : X.mg "enumerate" = none) (ha : PA X [e] ta) (hs : starEach [e] X.env = [(false, eval e X.env)] := by rfl) (hK : X.K = K := by rfl) :
    PI X (.Tuple elts kk tpos) (.Call (.Name "enumerate" p) [e] [] pos) (iEnum K ta) := by subst hK; exact pi_enum hg hm ha hs
def rDictP (K : PySem.W.Frag) : List V → Hp → VK → Prop := fun xs H Q => ∃ (a : Addr) (ps : List Addr) (kvs : List (L2.Key × V)), xs = [.ref a] ∧ SqL K H a (ps.map V.ref) ∧ Paired (fun p kv => SqT K H p [kV kv.1, kv.2]) ps kvs ∧ ∀ p, H p = none → Q (.ref p) (upd H p (.dK (mergeK [] kvs)))
theorem kdictP (K : PySem.W.Frag) (hc : X.calm = true) (hK : X.K = K := by rfl) : CallR X (.type "dict") (rDictP K) := by subst hK; exact call_dictP hc
end
/-! new objects, one on the other -/
def lad (H : Hp) : List (Addr × HO) → Hp
  | [] => H
  | x :: r => lad (upd H x.1 x.2) r
def ladOk (H : Hp) : List (Addr × HO) → Prop
  | [] => True
  | x :: r => H x.1 = none ∧ ladOk (upd H x.1 x.2) r
theorem lad_old : ∀ {l : List (Addr × HO)} {H : Hp} {b : Addr} {o : HO}, ladOk H l → H b = some o → lad H l b = some o
  | [], _, _, _, _, e => e
  | x :: r, H, b, o, ⟨h, hr⟩, e => lad_old (l := r) hr ((upd_ne (ne_of_none e h)).trans e)
theorem lad_at : ∀ {l : List (Addr × HO)} {H : Hp}, ladOk H l → ∀ (i : Nat) {x : Addr × HO}, l[i]? = some x → lad H l x.1 = some x.2
  | [], _, _, _, _, e => by cases e
  | x :: r, H, ⟨h, hr⟩, 0, y, e => by
    injection e with e
    subst e
    exact lad_old (l := r) hr upd_same
  | x :: r, H, ⟨h, hr⟩, i + 1, y, e => lad_at (l := r) hr i e
theorem lad_new : ∀ {l : List (Addr × HO)} {H : Hp}, ladOk H l → ∀ (i : Nat) {x : Addr × HO}, l[i]? = some x → H x.1 = none
  | [], _, _, _, _, e => by cases e
  | x :: r, H, ⟨h, hr⟩, 0, y, e => by injection e with e; subst e; exact h
  | x :: r, H, ⟨h, hr⟩, i + 1, y, e => by
    have h2 := lad_new (l := r) hr i e
    by_cases z : y.1 = x.1
    · rw [z, upd_same] at h2; cases h2
    · rwa [upd_ne z] at h2
end FG

/-! GDl: list(d.items()) and d.clear() where d's keys are tuples. -/
namespace FG
open PySem PySem.Spec L2
open PyProof.Rows hiding St
/-- the pairs tracked at their addresses -/
def putG : Hp → List Addr → List (V × V) → Hp
  | H, a :: as, p :: zs => putG (upd H a (.tup [p.1, p.2])) as zs
  | H, _, _ => H
theorem putG_off {b : Addr} : ∀ (as : List Addr) (zs : List (V × V)) (H : Hp), b ∉ as → putG H as zs b = H b
  | [], _, _, _ => rfl
  | _ :: _, [], _, _ => rfl
  | a :: as, p :: zs, H, h => by
    show putG (upd H a (.tup [p.1, p.2])) as zs b = H b
    rw [putG_off as zs _ (fun z => h (List.mem_cons_of_mem _ z)), upd_ne (fun z => h (by rw [z]; exact List.mem_cons_self))]
theorem putG_at : ∀ (as : List Addr) (zs : List (V × V)) (H : Hp), as.length = zs.length → as.Nodup → Paired (fun (t : Addr) (p : V × V) => putG H as zs t = some (.tup [p.1, p.2])) as zs
  | [], [], _, _, _ => .nil
  | [], _ :: _, _, h, _ => by cases h
  | _ :: _, [], _, h, _ => by cases h
  | a :: as, p :: zs, H, h, hn => by
    have hn' := List.nodup_cons.mp hn
    have ih := putG_at as zs (upd H a (.tup [p.1, p.2])) (Nat.succ.inj h) hn'.2
    refine .cons ?_ ih
    show putG (upd H a (.tup [p.1, p.2])) as zs a = some (.tup [p.1, p.2])
    rw [putG_off as zs _ hn'.1, upd_same]
def rItemsLT : V → Hp → VK → Prop := fun x H Q => ∃ (d : Addr) (kvs : List (List L2.Key × V)), x = .ref d ∧ H d = some (.dT kvs) ∧
  ∀ (H' : Hp) (p : Addr) (ts : List Addr), (∀ b o, H b = some o → H' b = some o) → H p = none → (∀ t ∈ ts, H t = none) → p ∉ ts → H' p = some (.lst (ts.map V.ref)) →
    Paired (fun (t : Addr) (q : List L2.Key × V) => ∃ k : Addr, H' t = some (.tup [.ref k, q.2]) ∧ H k = some (.tup (q.1.map kV))) ts kvs → Q (.ref p) H'
def tListItemsT (te : TE) : TE := fun σ H Q => te σ H fun x H1 => rItemsLT x H1 Q
section
variable {X : Cx} {e : Expr} {te : TE} {p apos cpos pos : Pos}
theorem items_laidG {pins : List (Addr × Obj)} {σ : L2.St} {H : Hp} {s : Shared} {h' : Heap} {tk : Nat} {zs : List (V × V)} {es : Array DictEntry} {acc : Array Value} {c : Nat} {as : List Addr} (I : Inv X pins σ H s) (hz : es.size ≤ sizeLine) (lz : zs.length = es.size)
    (rel : ∀ (j : Nat) (hj : j < es.size) (q : V × V), zs[j]? = some q → RelV q.1 es[j].key ∧ RelV q.2 es[j].val)
    (hk : ∀ b o, s.heap.get? b = some o → h'.get? b = some o) (hS : h'.get? s.heap.objs.size = some { cls := .type "list", dict := none, data := .seq acc c, slots := #[] }) (hl : as.length = es.size) (hG : PySem.W.DilG es s.heap.objs.size h' as) (hacc : acc.toList = as.map Value.ref) :
    ∃ H' : Hp, (∀ b o, H b = some o → H' b = some o) ∧ H s.heap.objs.size = none ∧ (∀ t ∈ as, H t = none) ∧ s.heap.objs.size ∉ as ∧ H' s.heap.objs.size = some (.lst (as.map V.ref)) ∧ Paired (fun (t : Addr) (q : V × V) => H' t = some (.tup [q.1, q.2])) as zs ∧ Inv X pins σ H' { s with heap := h', toks := tk } := by
  have hSn : s.heap.objs.size ∉ as := fun z => Nat.lt_irrefl _ (hG.above _ z)
  have nd : as.Nodup := List.Pairwise.imp (fun {a b} (h : a < b) => Nat.ne_of_lt h) hG.rise
  have new : ∀ t ∈ as, H t = none := fun t ht => I.hok.fresh (Nat.le_of_lt (hG.above t ht))
  have newS : H s.heap.objs.size = none := I.hok.fresh (Nat.le_refl _)
  have atP := putG_at as zs (upd H s.heap.objs.size (.lst (as.map V.ref))) (by omega) nd
  have off : ∀ b, b ∉ as → b ≠ s.heap.objs.size → putG (upd H s.heap.objs.size (.lst (as.map V.ref))) as zs b = H b := fun b h1 h2 => by rw [putG_off as zs _ h1, upd_ne h2]
  have low : ∀ b o, s.heap.get? b = some o → b ∉ as ∧ b ≠ s.heap.objs.size := fun b o e => ⟨fun z => absurd (Heap.lt_size e) (Nat.not_lt.mpr (Nat.le_of_lt (hG.above b z))), Nat.ne_of_lt (Heap.lt_size e)⟩
  have kp : ∀ b u, H b = some u → (putG (upd H s.heap.objs.size (.lst (as.map V.ref))) as zs) b = some u := fun b u e => by
    rw [off b (fun z => by rw [new b z] at e; cases e) (fun z => by rw [z, newS] at e; cases e)]
    exact e
  have eS : putG (upd H s.heap.objs.size (.lst (as.map V.ref))) as zs s.heap.objs.size = some (.lst (as.map V.ref)) := by rw [putG_off as zs _ hSn, upd_same]
  refine ⟨putG (upd H s.heap.objs.size (.lst (as.map V.ref))) as zs, kp, newS, new, hSn, eS, atP, ?_⟩
  refine I.call' (ch := []) rfl ⟨fun b o q _ _ _ => hk b o q, fun b o q _ _ _ => ⟨o.slots, hk b o q⟩, fun b o q n _ => ?_, fun b o q _ => ⟨o, hk b o q⟩, fun b xs q => kp b _ q, fun b o u q => kp b _ q, fun b ps q => ⟨#[], by rw [kp b _ q]; simp⟩⟩ (fun b u q => ?_) I.bare fun b z => by simp at z
  · obtain ⟨z1, z2⟩ := low b o q
    rw [off b z1 z2]
    exact n
  · by_cases hb : b ∈ as
    · obtain ⟨j, pk, e1, e2, e3⟩ := LiI.paired_ix atP hb
      rw [e3] at q
      cases q
      obtain ⟨hj, f3⟩ := hG.pairs j b e1
      obtain ⟨r1, r2⟩ := rel j hj pk e2
      exact ⟨by show 2 ≤ sizeLine; decide, [es[j].key, es[j].val], .cons r1 (.cons r2 .nil), ⟨_, f3, rfl, _, rfl⟩⟩
    · by_cases hb2 : b = s.heap.objs.size
      · rw [hb2] at q ⊢
        rw [eS] at q
        cases q
        refine ⟨by rw [List.length_map]; omega, acc.toList, c, by rw [hacc]; exact LiI.vals_refs as, ?_⟩
        rw [Array.toArray_toList]
        exact hS
      · rw [off b hb hb2] at q
        exact (I.hok b u q).stay (fun d v _ y => hk d v y) (fun d y => kp d _ y) fun d xs y => kp d _ y
theorem meetsItemsR {prog : Program} {w : World} {d : Addr} {es : Array DictEntry} {ep : Nat} (hd : (d == sysModules) = false) :
    MeetsIn prog w (Builtin.«dict.items» ⟨[.ref d], []⟩) (fun _ R s => DT.Raw s.heap d es ep ∧
      R (.ok (.ret (.ref s.heap.objs.size))) { s with heap := s.heap.push { cls := .type "dict_items", data := .fields #[.ref d] } }) :=
  .of_wp fun A R s ⟨hm, h⟩ => by
    show wpAny _ _ (Builtin.Dict.noArgs "items" ⟨[.ref d], []⟩ >>= _) _ _ s
    refine wpAny_bind ?_
    unfold Builtin.Dict.noArgs
    refine wpAny_bind (wpAny_notOrdered_dict hm.typeIs ?_)
    show wpAny _ _ (pure d) _ _ s
    refine wpAny_pure ?_
    show wpAny _ _ (Builtin.Dict.showsAll d >>= _) _ _ s
    unfold Builtin.Dict.showsAll
    rw [if_neg (by rw [hd]; exact Bool.false_ne_true)]
    refine wpAny_bind (wpAny_pure ?_)
    exact wpAny_bind (wpAny_newObj_type (wpAny_pure ⟨_, rfl, h⟩))
theorem pe_listItemsT (hc : X.calm = true) (he : PE X e te) (hg : Gl X "list") (hm : X.mg "list" = none) (hv : bootBuiltins "list" = some (.type "list")) (hbase : attributeBase e "items" X.env (eval e X.env) = eval e X.env := by rfl) (hline : (apos.endLine == cpos.line) = true := by rfl)
    (hs : starEach [.Call (.Attribute e "items" apos) [] [] cpos] X.env = (false, eval (.Call (.Attribute e "items" apos) [] [] cpos) X.env) :: starEach [] X.env := by rfl) :
    PE X (.Call (.Name "list" p) [.Call (.Attribute e "items" apos) [] [] cpos] [] pos) (tListItemsT te) := by
  refine ⟨fun pins s σ H Q I hq => ?_⟩
  refine wpAny_Call_Name_kw (ld_blt I hg hm hv ?_)
  refine PyProof.Rows.callWith_type1 ?_ hs rfl
  rw [hs]
  show wpAny _ _ (spliced ((false, eval (.Call (.Attribute e "items" apos) [] [] cpos) X.env) :: backTo pos (starEach [] X.env))) _ _ s
  refine Calls.spliced_cons ?_
  refine wpAny_Call_method (T := "dict") (id := "dict.items") hbase rfl hline F.plainAttrs_dict F.slot_dict_items F.type_dict_items (thn (he.run pins s σ H _ I hq) fun u s1 ⟨x, H1, I1, rx, d, kvs, ex, hd, q⟩ => ?_)
  subst ex
  obtain rfl : u = Value.ref d := rx
  obtain ⟨hz, hs0, xs, pr, o, es, ep, ho, hx, hdt, hes, _⟩ := I1.hok d _ hd
  have hm1 : DT.Raw s1.heap d es ep := ⟨o, ho, hx, hdt⟩
  have lx : kvs.length = xs.length := Paired.length pr
  have le : es.size = xs.length := size_of_entries hes
  have I2 : Inv X pins σ H1 { s1 with heap := s1.heap.push { cls := .type "dict_items", data := .fields #[.ref d] } } := I1.kept (t' := s1.toks) fun b ob q => Heap.get?_push_of_some _ q
  -- the keys' own tuples
  have keys : ∃ zs : List (Addr × V), zs.length = kvs.length ∧ ∀ (j : Nat) (hj : j < es.size), ∃ (q : Addr) (k : List L2.Key) (v : V), zs[j]? = some (q, v) ∧ kvs[j]? = some (k, v) ∧ es[j].key = .ref q ∧ H1 q = some (.tup (k.map kV)) ∧ RelV v es[j].val := by
    refine ⟨(List.zip xs kvs).map fun t => (t.1.2.1, t.2.2), by rw [List.length_map, List.length_zip]; omega, fun j hj => ?_⟩
    have hjk : j < kvs.length := by omega
    obtain ⟨b, hb, e1, e2, e3⟩ := LiI.paired_get pr (List.getElem?_eq_getElem hjk)
    have q0 := entry_at hes j
    rw [hb] at q0
    have e4 : es[j] = entryOfKey (tupleKind (mixKind X.prog X.w)) b := by
      rw [Array.getElem?_eq_getElem hj] at q0
      exact Option.some.inj q0
    refine ⟨b.2.1, kvs[j].1, kvs[j].2, ?_, List.getElem?_eq_getElem hjk, by rw [e4]; rfl, e2, by rw [e4]; exact e3⟩
    rw [List.getElem?_map, (List.getElem?_zip_eq_some (z := (b, kvs[j]))).mpr ⟨hb, List.getElem?_eq_getElem hjk⟩]; rfl
  obtain ⟨zs, lz, hzs⟩ := keys
  refine ⟨hm1.typeIs, (fun b e => by injection e with e; subst e; exact ⟨o, ho, hx.2.1⟩), ?_⟩
  show wpAny _ _ (callWith cpos (.builtin "dict.items") [.ref d] [] []) _ X.xe s1
  refine method_meetsIn F.slot_dict_items F.entry_dict_items rfl (PySem.evalArgs_none ⟨rfl, hm1.typeIs, F.args_dict_items_1 _, _, meetsItemsR (es := es) (ep := ep) hs0, hm1, ?_⟩)
  refine Calls.spliced_nil ?_
  refine PySem.W.dil_call (es := es) (ep := ep) (I1.ok.hd hc) ⟨_, Heap.get?_push_size _ rfl, rfl, rfl⟩ ⟨o, Heap.get?_push_of_some _ ho, hx, hdt⟩ (by omega) fun h' tk acc c as hk hS hl hG hacc => ?_
  have relz : ∀ (j : Nat) (hj : j < es.size) (q : V × V), (zs.map fun t => (V.ref t.1, t.2))[j]? = some q → RelV q.1 es[j].key ∧ RelV q.2 es[j].val := fun j hj q hq => by
    obtain ⟨q', k, v, a1, _, a3, _, a5⟩ := hzs j hj
    rw [List.getElem?_map, a1] at hq
    cases hq
    exact ⟨by rw [a3]; exact rfl, a5⟩
  obtain ⟨H', k1, k2, k3, k4, k5, k6, J⟩ := items_laidG (zs := zs.map fun t => (V.ref t.1, t.2)) (tk := tk) I2 (by omega) (by rw [List.length_map]; omega) relz hk hS hl hG hacc
  · refine ⟨.ref _, H', J, rfl, q H' _ as k1 k2 k3 k4 k5 ?_⟩
    have all : ∀ {as : List Addr} {zs : List (Addr × V)} {kvs : List (List L2.Key × V)}, Paired (fun (t : Addr) (q : V × V) => H' t = some (.tup [q.1, q.2])) as (zs.map fun t => (V.ref t.1, t.2)) → zs.length = kvs.length → (∀ (j : Nat) (z : Addr × V) (kv : List L2.Key × V), zs[j]? = some z → kvs[j]? = some kv → z.2 = kv.2 ∧ H1 z.1 = some (.tup (kv.1.map kV))) →
        Paired (fun (t : Addr) (q : List L2.Key × V) => ∃ k : Addr, H' t = some (.tup [.ref k, q.2]) ∧ H1 k = some (.tup (q.1.map kV))) as kvs := by
      intro as zs
      induction zs generalizing as with
      | nil =>
        intro kvs pr l _
        cases pr
        cases kvs with
        | nil => exact .nil
        | cons a r => cases l
      | cons z zs ih =>
        intro kvs pr l h
        cases kvs with
        | nil => cases l
        | cons kv kvs =>
          cases pr with
          | cons h1 h2 =>
            obtain ⟨e1, e2⟩ := h 0 z kv rfl rfl
            refine .cons ⟨z.1, by rw [← e1]; exact h1, e2⟩ (ih h2 (by simpa using l) fun j z' kv' a b => h (j + 1) z' kv' a b)
    refine all k6 lz fun j z kv h1 h2 => ?_
    have hj : j < es.size := by have := (List.getElem?_eq_some_iff.mp h2).1; omega
    obtain ⟨q', k, v, a1, a2, _, a4, _⟩ := hzs j hj
    rw [h1] at a1
    rw [h2] at a2
    cases a1
    cases a2
    exact ⟨rfl, a4⟩
/-! ### d.clear() -/
def rDClearT : V → List V → Hp → VK → Prop := fun x vs H Q => ∃ (a : Addr) (kvs : List (List L2.Key × V)), x = .ref a ∧ vs = [] ∧ H a = some (.dT kvs) ∧ Q .non (upd H a (.dT []))
theorem meets_clearT {prog : Program} {w : World} {d : Addr} {K : Type} [DecidableEq K] {knd : HeapKind prog w K} :
    MeetsIn prog w (Builtin.«dict.clear» ⟨[.ref d], []⟩) (fun _ R s => ∃ o es ep, s.heap.get? d = some o ∧ o.ExactDict ∧ o.data = .dict es ep ∧ es.size ≤ sizeLine ∧
      ∀ h', h'.DictOfH knd d [] → Heap.SameBut d s.heap h' → R (.ok (.ret .none)) { s with heap := h' }) :=
  .of_wp fun A R s ⟨o, es, ep, ho, hc, hdat, hes, h⟩ => by
    unfold Builtin.«dict.clear»
    refine wpAny_bind ?_
    unfold Builtin.Dict.noArgs
    refine wpAny_bind (wpAny_notOrdered_dict ⟨o, ho, hc.1⟩ ?_)
    show wpAny _ _ (pure d) _ _ s
    refine wpAny_pure ?_
    refine wpAny_bind (wpAny_dictEntries ho hdat ?_)
    refine wpAny_bind ?_
    unfold bearsInstanceDictMark
    refine wpAny_bind (wpAny_load ho (wpAny_pure ?_))
    refine wpAny_bind (wpAny_updateDictKeys (hz := hes) ho hdat ?_)
    have hnew : (s.heap.update d (Obj.mapDictKeys fun _ => #[])).DictOfH knd d [] :=
      ⟨_, _, ep + 1, Heap.get?_update_self _ ho (Obj.isFreed_of_dict (Obj.data_mapDictKeys hdat _)), hc.mapDictKeys _, Obj.data_mapDictKeys hdat _, rfl, fun _ hx => by simp at hx, List.nodup_nil⟩
    split
    · exact wpAny_bind (wpAny_letGo (wpAny_pure ⟨.none, rfl, h _ hnew (Heap.SameBut.update ..)⟩))
    · exact wpAny_bind (wpAny_pure (wpAny_pure ⟨.none, rfl, h _ hnew (Heap.SameBut.update ..)⟩))
theorem mtd_clearT {X : Cx} : MtR X "dict.clear" rDClearT := by
  intro pins s σ H x vs v us Q I rx rv h
  obtain ⟨a, kvs, ex, ev, e, q⟩ := h
  subst ex
  subst ev
  obtain rfl : v = Value.ref a := rx
  have hus := rv.zero
  subst hus
  obtain ⟨hz, hs0, xs, pr, o, es, ep, ho, hx, hdt, hes, _⟩ := I.hok a _ e
  have lx : kvs.length = xs.length := Paired.length pr
  have le : es.size = xs.length := size_of_entries hes
  refine call_meetsIn PySem.F.slot_dict_clear ⟨o, ho, hx.1⟩ PySem.F.entry_dict_clear (PySem.F.args_dict_clear_1 _) (meets_clearT (knd := tupleKind (mixKind X.prog X.w))) ⟨o, es, ep, ho, hx, hdt, by omega, fun h' dd' hs => ?_⟩
  obtain ⟨o', es', ep', hq, h2, h3, h4, h5, h6⟩ := dd'
  refine ⟨.non, _, d_write (t' := s.toks) (ob := .dT []) I (by rw [e]; exact True.intro) hs ⟨o', hq⟩ (⟨Nat.zero_le _, hs0, [], .nil, o', es', ep', hq, h2, h3, h4, h6⟩ : ObjOk X.prog X.w (upd H a (.dT [])) h' a (.dT [])), rfl, q⟩
end
end FG

/-! short tactics of our own, local to this text -/
local macro_rules | `(tactic| walk_at "ne") => `(tactic| first | assumption | (apply Ne.symm; assumption) | grind)
local macro_rules | `(tactic| walk_at "hl") => `(tactic| first | assumption | exact L2.upd_same | exact (L2.upd_ne (by walk_at "ne")).trans (by walk_at "hl"))
local macro_rules | `(tactic| walk_at "c") => `(tactic| first | omega | (refine ⟨?_, ?_⟩ <;> omega) | (refine ⟨?_, ?_, ?_⟩ <;> omega) | decide)
/-- one step of a reading -/
local macro_rules | `(tactic| walk_at "r1") => `(tactic| first
  | refine ⟨_, rfl, ?_⟩
  | refine ⟨_, _, rfl, rfl, ?_⟩
  | refine ⟨_, _, _, _, rfl, rfl, SqL.of (by walk_at "hl"), rfl, ?_⟩
  | refine ⟨_, _, rfl, .inl (SqL.of (by walk_at "hl")), ?_⟩
  | refine ⟨_, _, rfl, rfl, (by walk_at "c"), ?_⟩
  | refine ⟨_, _, rfl, rfl, .inl (by walk_at "c"), ?_⟩)
local macro_rules | `(tactic| walk_at "rd") => `(tactic| repeat walk_at "r1")
/-- to the next statement -/
local macro_rules | `(tactic| walk_at "nx") => `(tactic| ((try dsimp only); (first | refine FG.nx_next ?_ | refine FG.nx_name ?_ | skip); (try dsimp only)))
namespace Lw
open PySem PySem.Spec L2 FG
open PyProof.Rows hiding St
def top (i : Nat) : Stmt := PySem.Challenge.pw_framerooms_k27_kept_and_why.main.body.getD i (.Pass ⟨0, 0, 0, 0⟩)
abbrev s__wall : Stmt := top 0
abbrev s_is_number : Stmt := top 16
abbrev s_is_whole : Stmt := top 17
abbrev s_is_name : Stmt := top 18
abbrev s_is_pair : Stmt := top 19
abbrev s_need_ending : Stmt := top 23
abbrev s_rooms_inside : Stmt := top 24
abbrev s_steps_in : Stmt := top 25
abbrev s_steps_from : Stmt := top 26
abbrev s_kept : Stmt := top 27
abbrev s__law_cell : Stmt := top 36
abbrev s__law_box : Stmt := top 37
abbrev s__law_take : Stmt := top 38
abbrev s__law_names : Stmt := top 39
abbrev s__law_world : Stmt := top 40
abbrev s__law_row : Stmt := top 41
abbrev s__law_standing : Stmt := top 42
abbrev s__law_used : Stmt := top 43
abbrev s__law_begun : Stmt := top 44
abbrev s__law_given : Stmt := top 45
abbrev s__law_ended : Stmt := top 46
abbrev s__law_picture : Stmt := top 47
abbrev s__law_all_rooms : Stmt := top 48
abbrev s__law_value : Stmt := top 49
abbrev s__law_deed : Stmt := top 50
abbrev s__law_hands : Stmt := top 51
abbrev s__law_inner : Stmt := top 52
abbrev s__law_steps : Stmt := top 53
abbrev s__law_kept : Stmt := top 54
abbrev s__law_scene : Stmt := top 55
abbrev s__law_chained : Stmt := top 56
abbrev s__law_walks : Stmt := top 57
abbrev s__law_right : Stmt := top 58
abbrev s_law : Stmt := top 59
abbrev s_NoNumber___init__ : Stmt := inClass (top 3) 0
abbrev s_NoValue___init__ : Stmt := inClass (top 4) 0
abbrev s_NoFrame___init__ : Stmt := inClass (top 5) 0
abbrev s_Gone___init__ : Stmt := inClass (top 6) 0
abbrev s_TooMany___init__ : Stmt := inClass (top 8) 0
abbrev s_Full___init__ : Stmt := inClass (top 9) 0
abbrev s_NoWay___init__ : Stmt := inClass (top 10) 0
abbrev s_NoCell___init__ : Stmt := inClass (top 11) 0
abbrev s_NoHands___init__ : Stmt := inClass (top 12) 0
abbrev s_Frames___init__ : Stmt := inClass (top 30) 0
abbrev s_Frames_need_begun : Stmt := inClass (top 30) 1
abbrev s_Frames_need_standing : Stmt := inClass (top 30) 2
abbrev s_Frames_need_more : Stmt := inClass (top 30) 3
abbrev s_Frames_begin : Stmt := inClass (top 30) 4
abbrev s_Frames_finish : Stmt := inClass (top 30) 5
abbrev s_Frames_clear : Stmt := inClass (top 30) 6
abbrev s_Frames_stands : Stmt := inClass (top 30) 7
abbrev s_Frames_inside : Stmt := inClass (top 30) 8
abbrev s_Frames_row : Stmt := inClass (top 30) 9
abbrev s_Frames_within : Stmt := inClass (top 30) 10
abbrev s_Frames_ended_by : Stmt := inClass (top 30) 11
abbrev s_Frames_standing : Stmt := inClass (top 30) 12
abbrev s_Frames_begun : Stmt := inClass (top 30) 13
abbrev s_House___init__ : Stmt := inClass (top 34) 0
abbrev s_House_make : Stmt := inClass (top 34) 1
abbrev s_House_clear : Stmt := inClass (top 34) 2
abbrev s_House_need_room : Stmt := inClass (top 34) 3
abbrev s_House_need_cell : Stmt := inClass (top 34) 4
abbrev s_House_is_value : Stmt := inClass (top 34) 5
abbrev s_House_get : Stmt := inClass (top 34) 6
abbrev s_House_put : Stmt := inClass (top 34) 7
abbrev s_House_size : Stmt := inClass (top 34) 8
abbrev s_House_cells : Stmt := inClass (top 34) 9
abbrev s_House_rooms : Stmt := inClass (top 34) 10
abbrev s_House_used : Stmt := inClass (top 34) 11
abbrev s_House_left : Stmt := inClass (top 34) 12
abbrev s_House_limit : Stmt := inClass (top 34) 13
abbrev s_House_greatest : Stmt := inClass (top 34) 14
abbrev s_House_picture : Stmt := inClass (top 34) 15
abbrev s_House_twin : Stmt := inClass (top 34) 16
abbrev s_House_need_begun : Stmt := inClass (top 30) 1
abbrev s_House_need_standing : Stmt := inClass (top 30) 2
abbrev s_House_need_more : Stmt := inClass (top 30) 3
abbrev s_House_begin : Stmt := inClass (top 30) 4
abbrev s_House_finish : Stmt := inClass (top 30) 5
abbrev s_House_stands : Stmt := inClass (top 30) 7
abbrev s_House_inside : Stmt := inClass (top 30) 8
abbrev s_House_row : Stmt := inClass (top 30) 9
abbrev s_House_within : Stmt := inClass (top 30) 10
abbrev s_House_ended_by : Stmt := inClass (top 30) 11
abbrev s_House_standing : Stmt := inClass (top 30) 12
abbrev s_House_begun : Stmt := inClass (top 30) 13
theorem sc_is_number : FnScope ["thing"] ["thing"] (defScope s_is_number) := ⟨rfl, rfl, rfl, by decide +kernel, rfl, by decide +kernel, by decide +kernel⟩
theorem sc_is_whole : FnScope ["thing", "low", "high"] ["thing", "low", "high"] (defScope s_is_whole) := ⟨rfl, rfl, rfl, by decide +kernel, rfl, by decide +kernel, by decide +kernel⟩
theorem sc_is_name : FnScope ["thing", "sign"] ["thing"] (defScope s_is_name) := ⟨rfl, rfl, rfl, by decide +kernel, rfl, by decide +kernel, by decide +kernel⟩
theorem sc_is_pair : FnScope ["thing", "one"] ["thing"] (defScope s_is_pair) := ⟨rfl, rfl, rfl, by decide +kernel, rfl, by decide +kernel, by decide +kernel⟩
theorem sc_need_ending : FnScope ["house", "frame", "hands", "name", "value"] ["house", "frame", "hands"] (defScope s_need_ending) := ⟨rfl, rfl, rfl, by decide +kernel, rfl, by decide +kernel, by decide +kernel⟩
theorem sc_rooms_inside : FnScope ["house", "frame", "found", "one", "way"] ["house", "frame"] (defScope s_rooms_inside) := ⟨rfl, rfl, rfl, by decide +kernel, rfl, by decide +kernel, by decide +kernel⟩
theorem sc_steps_in : FnScope ["house", "hands", "inner", "found", "name", "value", "frame", "holder"] ["house", "hands", "inner"] (defScope s_steps_in) := ⟨rfl, rfl, rfl, by decide +kernel, rfl, by decide +kernel, by decide +kernel⟩
theorem sc_steps_from : FnScope ["house", "holder", "inner", "k", "way"] ["house", "holder", "inner"] (defScope s_steps_from) := ⟨rfl, rfl, rfl, by decide +kernel, rfl, by decide +kernel, by decide +kernel⟩
theorem sc_kept : FnScope ["house", "frame", "hands", "inner", "found", "line", "step", "at"] ["house", "frame", "hands"] (defScope s_kept) := ⟨rfl, rfl, rfl, by decide +kernel, rfl, by decide +kernel, by decide +kernel⟩
theorem sc__law_cell : FnScope ["_law_script", "_law_k"] ["_law_script", "_law_k"] (defScope s__law_cell) := ⟨rfl, rfl, rfl, by decide +kernel, rfl, by decide +kernel, by decide +kernel⟩
theorem sc__law_box : FnScope ["_law_cell_here"] ["_law_cell_here"] (defScope s__law_box) := ⟨rfl, rfl, rfl, by decide +kernel, rfl, by decide +kernel, by decide +kernel⟩
theorem sc__law_take : FnScope ["_law_box_here", "_law_many", "_law_digit", "_law_number"] ["_law_box_here", "_law_many"] (defScope s__law_take) := ⟨rfl, rfl, rfl, by decide +kernel, rfl, by decide +kernel, by decide +kernel⟩
theorem sc__law_names : FnScope ["_law_box_here", "_law_many", "_law_letters", "_law_way", "_law_first", "_law_step", "_law_words", "_law_k", "_law_stem", "_law_at", "_law_whole"] ["_law_box_here", "_law_many"] (defScope s__law_names) := ⟨rfl, rfl, rfl, by decide +kernel, rfl, by decide +kernel, by decide +kernel⟩
theorem sc__law_world : FnScope ["_law_limit"] ["_law_limit"] (defScope s__law_world) := ⟨rfl, rfl, rfl, by decide +kernel, rfl, by decide +kernel, by decide +kernel⟩
theorem sc__law_row : FnScope ["_law_world_here", "_law_frame", "_law_found"] ["_law_world_here", "_law_frame"] (defScope s__law_row) := ⟨rfl, rfl, rfl, by decide +kernel, rfl, by decide +kernel, by decide +kernel⟩
theorem sc__law_standing : FnScope ["_law_world_here", "_law_frame"] ["_law_world_here"] (defScope s__law_standing) := ⟨rfl, rfl, rfl, by decide +kernel, rfl, by decide +kernel, by decide +kernel⟩
theorem sc__law_used : FnScope ["_law_world_here", "_law_cells"] ["_law_world_here"] (defScope s__law_used) := ⟨rfl, rfl, rfl, by decide +kernel, rfl, by decide +kernel, by decide +kernel⟩
theorem sc__law_begun : FnScope ["_law_world_here", "_law_frame"] ["_law_world_here", "_law_frame"] (defScope s__law_begun) := ⟨rfl, rfl, rfl, by decide +kernel, rfl, by decide +kernel, by decide +kernel⟩
theorem sc__law_given : FnScope ["_law_world_here", "_law_frame", "_law_size", "_law_way"] ["_law_world_here", "_law_frame", "_law_size"] (defScope s__law_given) := ⟨rfl, rfl, rfl, by decide +kernel, rfl, by decide +kernel, by decide +kernel⟩
theorem sc__law_ended : FnScope ["_law_world_here", "_law_frame", "_law_found", "_law_one", "_law_way"] ["_law_world_here", "_law_frame"] (defScope s__law_ended) := ⟨rfl, rfl, rfl, by decide +kernel, rfl, by decide +kernel, by decide +kernel⟩
theorem sc__law_picture : FnScope ["_law_world_here", "_law_rows", "_law_frame", "_law_rooms", "_law_way"] ["_law_world_here"] (defScope s__law_picture) := ⟨rfl, rfl, rfl, by decide +kernel, rfl, by decide +kernel, by decide +kernel⟩
theorem sc__law_all_rooms : FnScope ["_law_world_here", "_law_found", "_law_frame"] ["_law_world_here"] (defScope s__law_all_rooms) := ⟨rfl, rfl, rfl, by decide +kernel, rfl, by decide +kernel, by decide +kernel⟩
theorem sc__law_value : FnScope ["_law_box_here", "_law_world_here", "_law_kind", "_law_some"] ["_law_box_here", "_law_world_here"] (defScope s__law_value) := ⟨rfl, rfl, rfl, by decide +kernel, rfl, by decide +kernel, by decide +kernel⟩
theorem sc__law_deed : FnScope ["_law_box_here", "_law_house", "_law_world_here", "_law_kind", "_law_standing_here", "_law_frame", "_law_some", "_law_size", "_law_way", "_law_k", "_law_value_here"] ["_law_box_here", "_law_house", "_law_world_here"] (defScope s__law_deed) := ⟨rfl, rfl, rfl, by decide +kernel, rfl, by decide +kernel, by decide +kernel⟩
theorem sc__law_hands : FnScope ["_law_box_here", "_law_world_here", "_law_names_here", "_law_k", "_law_name"] ["_law_box_here", "_law_world_here"] (defScope s__law_hands) := ⟨rfl, rfl, rfl, by decide +kernel, rfl, by decide +kernel, by decide +kernel⟩
theorem sc__law_inner : FnScope ["_law_world_here", "_law_frame", "_law_way"] ["_law_world_here", "_law_frame"] (defScope s__law_inner) := ⟨rfl, rfl, rfl, by decide +kernel, rfl, by decide +kernel, by decide +kernel⟩
theorem sc__law_steps : FnScope ["_law_world_here", "_law_frame", "_law_hands_here", "_law_inner_here", "_law_found", "_law_name", "_law_holder", "_law_cells", "_law_k"] ["_law_world_here", "_law_frame", "_law_hands_here"] (defScope s__law_steps) := ⟨rfl, rfl, rfl, by decide +kernel, rfl, by decide +kernel, by decide +kernel⟩
theorem sc__law_kept : FnScope ["_law_world_here", "_law_frame", "_law_hands_here", "_law_inner_here", "_law_found", "_law_fresh", "_law_step", "_law_late", "_law_row_here", "_law_way", "_law_k", "_law_value_here"] ["_law_world_here", "_law_frame", "_law_hands_here"] (defScope s__law_kept) := ⟨rfl, rfl, rfl, by decide +kernel, rfl, by decide +kernel, by decide +kernel⟩
theorem sc__law_scene : FnScope ["_law_box_here", "_law_limit", "_law_house", "_law_world_here", "_law_turn"] ["_law_box_here"] (defScope s__law_scene) := ⟨rfl, rfl, rfl, by decide +kernel, rfl, by decide +kernel, by decide +kernel⟩
theorem sc__law_chained : FnScope ["_law_box_here", "_law_house", "_law_world_here", "_law_hands_here", "_law_standing_here", "_law_last", "_law_many", "_law_turn", "_law_frame", "_law_way", "_law_k"] ["_law_box_here", "_law_house", "_law_world_here", "_law_hands_here"] (defScope s__law_chained) := ⟨rfl, rfl, rfl, by decide +kernel, rfl, by decide +kernel, by decide +kernel⟩
theorem sc__law_walks : FnScope ["_law_world_here", "_law_hands_here", "_law_row_here", "_law_one", "_law_other"] ["_law_world_here", "_law_hands_here", "_law_row_here"] (defScope s__law_walks) := ⟨rfl, rfl, rfl, by decide +kernel, rfl, by decide +kernel, by decide +kernel⟩
theorem sc__law_right : FnScope ["_law_house", "_law_world_here", "_law_hands_here", "_law_other", "_law_frame", "_law_some", "_law_due", "_law_handed", "_law_found", "_law_way"] ["_law_house", "_law_world_here", "_law_hands_here"] (defScope s__law_right) := ⟨rfl, rfl, rfl, by decide +kernel, rfl, by decide +kernel, by decide +kernel⟩
theorem sc_law : FnScope ["_law_script", "_law_beside", "_law_k", "_law_box_here", "_law_scene_here"] ["_law_script"] (defScope s_law) := ⟨rfl, rfl, rfl, by decide +kernel, rfl, by decide +kernel, by decide +kernel⟩
theorem sc_NoNumber___init__ : FnScope ["self", "found"] ["self", "found"] (defScope s_NoNumber___init__) := ⟨rfl, rfl, rfl, by decide +kernel, rfl, by decide +kernel, by decide +kernel⟩
theorem sc_NoValue___init__ : FnScope ["self", "found"] ["self", "found"] (defScope s_NoValue___init__) := ⟨rfl, rfl, rfl, by decide +kernel, rfl, by decide +kernel, by decide +kernel⟩
theorem sc_NoFrame___init__ : FnScope ["self", "found"] ["self", "found"] (defScope s_NoFrame___init__) := ⟨rfl, rfl, rfl, by decide +kernel, rfl, by decide +kernel, by decide +kernel⟩
theorem sc_Gone___init__ : FnScope ["self", "found", "by"] ["self", "found", "by"] (defScope s_Gone___init__) := ⟨rfl, rfl, rfl, by decide +kernel, rfl, by decide +kernel, by decide +kernel⟩
theorem sc_TooMany___init__ : FnScope ["self", "many"] ["self", "many"] (defScope s_TooMany___init__) := ⟨rfl, rfl, rfl, by decide +kernel, rfl, by decide +kernel, by decide +kernel⟩
theorem sc_Full___init__ : FnScope ["self", "need", "spare"] ["self", "need", "spare"] (defScope s_Full___init__) := ⟨rfl, rfl, rfl, by decide +kernel, rfl, by decide +kernel, by decide +kernel⟩
theorem sc_NoWay___init__ : FnScope ["self", "found"] ["self", "found"] (defScope s_NoWay___init__) := ⟨rfl, rfl, rfl, by decide +kernel, rfl, by decide +kernel, by decide +kernel⟩
theorem sc_NoCell___init__ : FnScope ["self", "found"] ["self", "found"] (defScope s_NoCell___init__) := ⟨rfl, rfl, rfl, by decide +kernel, rfl, by decide +kernel, by decide +kernel⟩
theorem sc_NoHands___init__ : FnScope ["self", "found"] ["self", "found"] (defScope s_NoHands___init__) := ⟨rfl, rfl, rfl, by decide +kernel, rfl, by decide +kernel, by decide +kernel⟩
theorem sc_Frames___init__ : FnScope ["self"] ["self"] (defScope s_Frames___init__) := ⟨rfl, rfl, rfl, by decide +kernel, rfl, by decide +kernel, by decide +kernel⟩
theorem sc_House___init__ : FnScope ["self", "limit"] ["self", "limit"] (defScope s_House___init__) := ⟨rfl, rfl, rfl, by decide +kernel, rfl, by decide +kernel, by decide +kernel⟩
theorem sc_House_make : FnScope ["self", "frame", "size", "way"] ["self", "frame", "size"] (defScope s_House_make) := ⟨rfl, rfl, rfl, by decide +kernel, rfl, by decide +kernel, by decide +kernel⟩
theorem sc_House_clear : FnScope ["self", "frame", "way"] ["self", "frame"] (defScope s_House_clear) := ⟨rfl, rfl, rfl, by decide +kernel, rfl, by decide +kernel, by decide +kernel⟩
theorem sc_House_need_room : FnScope ["self", "way"] ["self", "way"] (defScope s_House_need_room) := ⟨rfl, rfl, rfl, by decide +kernel, rfl, by decide +kernel, by decide +kernel⟩
theorem sc_House_need_cell : FnScope ["self", "way", "k"] ["self", "way", "k"] (defScope s_House_need_cell) := ⟨rfl, rfl, rfl, by decide +kernel, rfl, by decide +kernel, by decide +kernel⟩
theorem sc_House_is_value : FnScope ["self", "thing"] ["self", "thing"] (defScope s_House_is_value) := ⟨rfl, rfl, rfl, by decide +kernel, rfl, by decide +kernel, by decide +kernel⟩
theorem sc_House_get : FnScope ["self", "way", "k"] ["self", "way", "k"] (defScope s_House_get) := ⟨rfl, rfl, rfl, by decide +kernel, rfl, by decide +kernel, by decide +kernel⟩
theorem sc_House_put : FnScope ["self", "way", "k", "value"] ["self", "way", "k", "value"] (defScope s_House_put) := ⟨rfl, rfl, rfl, by decide +kernel, rfl, by decide +kernel, by decide +kernel⟩
theorem sc_House_size : FnScope ["self", "way"] ["self", "way"] (defScope s_House_size) := ⟨rfl, rfl, rfl, by decide +kernel, rfl, by decide +kernel, by decide +kernel⟩
theorem sc_House_cells : FnScope ["self", "way"] ["self", "way"] (defScope s_House_cells) := ⟨rfl, rfl, rfl, by decide +kernel, rfl, by decide +kernel, by decide +kernel⟩
theorem sc_House_rooms : FnScope ["self", "frame"] ["self", "frame"] (defScope s_House_rooms) := ⟨rfl, rfl, rfl, by decide +kernel, rfl, by decide +kernel, by decide +kernel⟩
theorem sc_House_used : FnScope ["self", "cells"] ["self"] (defScope s_House_used) := ⟨rfl, rfl, rfl, by decide +kernel, rfl, by decide +kernel, by decide +kernel⟩
theorem sc_House_left : FnScope ["self"] ["self"] (defScope s_House_left) := ⟨rfl, rfl, rfl, by decide +kernel, rfl, by decide +kernel, by decide +kernel⟩
theorem sc_House_limit : FnScope ["self"] ["self"] (defScope s_House_limit) := ⟨rfl, rfl, rfl, by decide +kernel, rfl, by decide +kernel, by decide +kernel⟩
theorem sc_House_greatest : FnScope ["self"] ["self"] (defScope s_House_greatest) := ⟨rfl, rfl, rfl, by decide +kernel, rfl, by decide +kernel, by decide +kernel⟩
theorem sc_House_picture : FnScope ["self", "frames", "frame", "rooms", "way"] ["self"] (defScope s_House_picture) := ⟨rfl, rfl, rfl, by decide +kernel, rfl, by decide +kernel, by decide +kernel⟩
theorem sc_House_need_begun : FnScope ["self", "frame"] ["self", "frame"] (defScope s_House_need_begun) := ⟨rfl, rfl, rfl, by decide +kernel, rfl, by decide +kernel, by decide +kernel⟩
theorem sc_House_need_standing : FnScope ["self", "frame"] ["self", "frame"] (defScope s_House_need_standing) := ⟨rfl, rfl, rfl, by decide +kernel, rfl, by decide +kernel, by decide +kernel⟩
theorem sc_House_need_more : FnScope ["self"] ["self"] (defScope s_House_need_more) := ⟨rfl, rfl, rfl, by decide +kernel, rfl, by decide +kernel, by decide +kernel⟩
theorem sc_House_begin : FnScope ["self", "frame"] ["self", "frame"] (defScope s_House_begin) := ⟨rfl, rfl, rfl, by decide +kernel, rfl, by decide +kernel, by decide +kernel⟩
theorem sc_House_finish : FnScope ["self", "frame", "ended", "one"] ["self", "frame"] (defScope s_House_finish) := ⟨rfl, rfl, rfl, by decide +kernel, rfl, by decide +kernel, by decide +kernel⟩
theorem sc_House_stands : FnScope ["self", "thing"] ["self", "thing"] (defScope s_House_stands) := ⟨rfl, rfl, rfl, by decide +kernel, rfl, by decide +kernel, by decide +kernel⟩
theorem sc_House_row : FnScope ["self", "frame", "found", "at"] ["self", "frame"] (defScope s_House_row) := ⟨rfl, rfl, rfl, by decide +kernel, rfl, by decide +kernel, by decide +kernel⟩
theorem sc_House_within : FnScope ["self", "frame", "one"] ["self", "frame"] (defScope s_House_within) := ⟨rfl, rfl, rfl, by decide +kernel, rfl, by decide +kernel, by decide +kernel⟩
theorem sc_House_standing : FnScope ["self", "one"] ["self"] (defScope s_House_standing) := ⟨rfl, rfl, rfl, by decide +kernel, rfl, by decide +kernel, by decide +kernel⟩
theorem sc_House_begun : FnScope ["self"] ["self"] (defScope s_House_begun) := ⟨rfl, rfl, rfl, by decide +kernel, rfl, by decide +kernel, by decide +kernel⟩
structure Tx (K : PySem.W.Frag) (mg : Str → Option Value) : Prop where
  g_is_number : mg "is_number" = some (.ref (He.ga K "is_number"))
  g_is_whole : mg "is_whole" = some (.ref (He.ga K "is_whole"))
  g_is_name : mg "is_name" = some (.ref (He.ga K "is_name"))
  g_is_pair : mg "is_pair" = some (.ref (He.ga K "is_pair"))
  g_need_ending : mg "need_ending" = some (.ref (He.ga K "need_ending"))
  g_rooms_inside : mg "rooms_inside" = some (.ref (He.ga K "rooms_inside"))
  g_steps_in : mg "steps_in" = some (.ref (He.ga K "steps_in"))
  g_steps_from : mg "steps_from" = some (.ref (He.ga K "steps_from"))
  g_kept : mg "kept" = some (.ref (He.ga K "kept"))
  g__law_cell : mg "_law_cell" = some (.ref (He.ga K "_law_cell"))
  g__law_box : mg "_law_box" = some (.ref (He.ga K "_law_box"))
  g__law_take : mg "_law_take" = some (.ref (He.ga K "_law_take"))
  g__law_names : mg "_law_names" = some (.ref (He.ga K "_law_names"))
  g__law_world : mg "_law_world" = some (.ref (He.ga K "_law_world"))
  g__law_row : mg "_law_row" = some (.ref (He.ga K "_law_row"))
  g__law_standing : mg "_law_standing" = some (.ref (He.ga K "_law_standing"))
  g__law_used : mg "_law_used" = some (.ref (He.ga K "_law_used"))
  g__law_begun : mg "_law_begun" = some (.ref (He.ga K "_law_begun"))
  g__law_given : mg "_law_given" = some (.ref (He.ga K "_law_given"))
  g__law_ended : mg "_law_ended" = some (.ref (He.ga K "_law_ended"))
  g__law_picture : mg "_law_picture" = some (.ref (He.ga K "_law_picture"))
  g__law_all_rooms : mg "_law_all_rooms" = some (.ref (He.ga K "_law_all_rooms"))
  g__law_value : mg "_law_value" = some (.ref (He.ga K "_law_value"))
  g__law_deed : mg "_law_deed" = some (.ref (He.ga K "_law_deed"))
  g__law_hands : mg "_law_hands" = some (.ref (He.ga K "_law_hands"))
  g__law_inner : mg "_law_inner" = some (.ref (He.ga K "_law_inner"))
  g__law_steps : mg "_law_steps" = some (.ref (He.ga K "_law_steps"))
  g__law_kept : mg "_law_kept" = some (.ref (He.ga K "_law_kept"))
  g__law_scene : mg "_law_scene" = some (.ref (He.ga K "_law_scene"))
  g__law_chained : mg "_law_chained" = some (.ref (He.ga K "_law_chained"))
  g__law_walks : mg "_law_walks" = some (.ref (He.ga K "_law_walks"))
  g__law_right : mg "_law_right" = some (.ref (He.ga K "_law_right"))
  g_law : mg "law" = some (.ref (He.ga K "law"))
  g_House : mg "House" = some (.ref (He.ga K "House"))
  g_Frames : mg "Frames" = some (.ref (He.ga K "Frames"))
  g_NoNumber : mg "NoNumber" = some (.ref (He.ga K "NoNumber"))
  g_NoFrame : mg "NoFrame" = some (.ref (He.ga K "NoFrame"))
  g_TooMany : mg "TooMany" = some (.ref (He.ga K "TooMany"))
  g_NoWay : mg "NoWay" = some (.ref (He.ga K "NoWay"))
  g_Gone : mg "Gone" = some (.ref (He.ga K "Gone"))
  g_Full : mg "Full" = some (.ref (He.ga K "Full"))
  g_NoCell : mg "NoCell" = some (.ref (He.ga K "NoCell"))
  g_NoValue : mg "NoValue" = some (.ref (He.ga K "NoValue"))
  g_Ground : mg "Ground" = some (.ref (He.ga K "Ground"))
  g_NoHands : mg "NoHands" = some (.ref (He.ga K "NoHands"))
  g_RoomError : mg "RoomError" = some (.ref (He.ga K "RoomError"))
  z_len : mg "len" = none
  z_range : mg "range" = none
  z_repr : mg "repr" = none
  z_isinstance : mg "isinstance" = none
  z_int : mg "int" = none
  z_bool : mg "bool" = none
  z_tuple : mg "tuple" = none
  z_max : mg "max" = none
  z_min : mg "min" = none
  z_reversed : mg "reversed" = none
  z_zip : mg "zip" = none
  z_all : mg "all" = none
  z_sum : mg "sum" = none
  z_list : mg "list" = none
  z_dict : mg "dict" = none
  z_str : mg "str" = none
  z_enumerate : mg "enumerate" = none
  i_MOST : ∃ t, mg "MOST" = some (.int 100 t)
  i_MOST_CELLS : ∃ t, mg "MOST_CELLS" = some (.int 1000 t)
  i_MOST_SIZE : ∃ t, mg "MOST_SIZE" = some (.int 6 t)
  i_LETTERS : ∃ t, mg "LETTERS" = some (.str "abcdefghijklmnopqrstuvwxyz" t)
  i_LONGEST : ∃ t, mg "LONGEST" = some (.int 6 t)
  i_HAND : ∃ t, mg "HAND" = some (.str "hand" t)
  i_ROOM : ∃ t, mg "ROOM" = some (.str "room" t)
  c_House : Cls K (He.ga K "House")
  n_House_holders : NoAttr K (He.ga K "House") "holders"
  n_House_takers : NoAttr K (He.ga K "House") "takers"
  n_House_most : NoAttr K (He.ga K "House") "most"
  n_House_top : NoAttr K (He.ga K "House") "top"
  n_House_given : NoAttr K (He.ga K "House") "given"
  n_House_filled : NoAttr K (He.ga K "House") "filled"
  n_House_sizes : NoAttr K (He.ga K "House") "sizes"
  n_House_held : NoAttr K (He.ga K "House") "held"
  m_House_make : Meth K (He.ga K "House") "make" (He.ma K (He.ga K "House") "make")
  m_House_clear : Meth K (He.ga K "House") "clear" (He.ma K (He.ga K "House") "clear")
  m_House_need_room : Meth K (He.ga K "House") "need_room" (He.ma K (He.ga K "House") "need_room")
  m_House_need_cell : Meth K (He.ga K "House") "need_cell" (He.ma K (He.ga K "House") "need_cell")
  m_House_is_value : Meth K (He.ga K "House") "is_value" (He.ma K (He.ga K "House") "is_value")
  m_House_get : Meth K (He.ga K "House") "get" (He.ma K (He.ga K "House") "get")
  m_House_put : Meth K (He.ga K "House") "put" (He.ma K (He.ga K "House") "put")
  m_House_size : Meth K (He.ga K "House") "size" (He.ma K (He.ga K "House") "size")
  m_House_cells : Meth K (He.ga K "House") "cells" (He.ma K (He.ga K "House") "cells")
  m_House_rooms : Meth K (He.ga K "House") "rooms" (He.ma K (He.ga K "House") "rooms")
  m_House_used : Meth K (He.ga K "House") "used" (He.ma K (He.ga K "House") "used")
  m_House_left : Meth K (He.ga K "House") "left" (He.ma K (He.ga K "House") "left")
  m_House_limit : Meth K (He.ga K "House") "limit" (He.ma K (He.ga K "House") "limit")
  m_House_greatest : Meth K (He.ga K "House") "greatest" (He.ma K (He.ga K "House") "greatest")
  m_House_picture : Meth K (He.ga K "House") "picture" (He.ma K (He.ga K "House") "picture")
  m_House_need_begun : Meth K (He.ga K "House") "need_begun" (He.ma K (He.ga K "House") "need_begun")
  m_House_need_standing : Meth K (He.ga K "House") "need_standing" (He.ma K (He.ga K "House") "need_standing")
  m_House_need_more : Meth K (He.ga K "House") "need_more" (He.ma K (He.ga K "House") "need_more")
  m_House_begin : Meth K (He.ga K "House") "begin" (He.ma K (He.ga K "House") "begin")
  m_House_finish : Meth K (He.ga K "House") "finish" (He.ma K (He.ga K "House") "finish")
  m_House_stands : Meth K (He.ga K "House") "stands" (He.ma K (He.ga K "House") "stands")
  m_House_row : Meth K (He.ga K "House") "row" (He.ma K (He.ga K "House") "row")
  m_House_within : Meth K (He.ga K "House") "within" (He.ma K (He.ga K "House") "within")
  m_House_standing : Meth K (He.ga K "House") "standing" (He.ma K (He.ga K "House") "standing")
  m_House_begun : Meth K (He.ga K "House") "begun" (He.ma K (He.ga K "House") "begun")
  k_House : Mk K (He.ga K "House") (He.ma K (He.ga K "House") "__init__")
  x_NoNumber : XC K (He.ga K "NoNumber") ["found"] ∧ XI K (He.ga K "NoNumber") (He.ma K (He.ga K "NoNumber") "__init__")
  x_NoFrame : XC K (He.ga K "NoFrame") ["found"] ∧ XI K (He.ga K "NoFrame") (He.ma K (He.ga K "NoFrame") "__init__")
  x_TooMany : XC K (He.ga K "TooMany") ["many"] ∧ XI K (He.ga K "TooMany") (He.ma K (He.ga K "TooMany") "__init__")
  x_NoWay : XC K (He.ga K "NoWay") ["found"] ∧ XI K (He.ga K "NoWay") (He.ma K (He.ga K "NoWay") "__init__")
  x_Gone : XC K (He.ga K "Gone") ["found", "by"] ∧ XI K (He.ga K "Gone") (He.ma K (He.ga K "Gone") "__init__")
  x_Full : XC K (He.ga K "Full") ["need", "spare"] ∧ XI K (He.ga K "Full") (He.ma K (He.ga K "Full") "__init__")
  x_NoCell : XC K (He.ga K "NoCell") ["found"] ∧ XI K (He.ga K "NoCell") (He.ma K (He.ga K "NoCell") "__init__")
  x_NoValue : XC K (He.ga K "NoValue") ["found"] ∧ XI K (He.ga K "NoValue") (He.ma K (He.ga K "NoValue") "__init__")
  x_Ground : X0 K (He.ga K "Ground")
  x_NoHands : XC K (He.ga K "NoHands") ["found"] ∧ XI K (He.ga K "NoHands") (He.ma K (He.ga K "NoHands") "__init__")
  u_Frames___init__ : UnbK K (He.ga K "Frames") "__init__" (He.ma K (He.ga K "Frames") "__init__")
  F_is_number : ∃ fd, Fun K "is_number" "is_number" s_is_number (He.ga K "is_number") fd
  F_is_whole : ∃ fd, Fun K "is_whole" "is_whole" s_is_whole (He.ga K "is_whole") fd
  F_is_name : ∃ fd, Fun K "is_name" "is_name" s_is_name (He.ga K "is_name") fd
  F_is_pair : ∃ fd, Fun K "is_pair" "is_pair" s_is_pair (He.ga K "is_pair") fd
  F_need_ending : ∃ fd, Fun K "need_ending" "need_ending" s_need_ending (He.ga K "need_ending") fd
  F_rooms_inside : ∃ fd, Fun K "rooms_inside" "rooms_inside" s_rooms_inside (He.ga K "rooms_inside") fd
  F_steps_in : ∃ fd, Fun K "steps_in" "steps_in" s_steps_in (He.ga K "steps_in") fd
  F_steps_from : ∃ fd, Fun K "steps_from" "steps_from" s_steps_from (He.ga K "steps_from") fd
  F_kept : ∃ fd, Fun K "kept" "kept" s_kept (He.ga K "kept") fd
  F__law_cell : ∃ fd, Fun K "_law_cell" "_law_cell" s__law_cell (He.ga K "_law_cell") fd
  F__law_box : ∃ fd, Fun K "_law_box" "_law_box" s__law_box (He.ga K "_law_box") fd
  F__law_take : ∃ fd, Fun K "_law_take" "_law_take" s__law_take (He.ga K "_law_take") fd
  F__law_names : ∃ fd, Fun K "_law_names" "_law_names" s__law_names (He.ga K "_law_names") fd
  F__law_world : ∃ fd, Fun K "_law_world" "_law_world" s__law_world (He.ga K "_law_world") fd
  F__law_row : ∃ fd, Fun K "_law_row" "_law_row" s__law_row (He.ga K "_law_row") fd
  F__law_standing : ∃ fd, Fun K "_law_standing" "_law_standing" s__law_standing (He.ga K "_law_standing") fd
  F__law_used : ∃ fd, Fun K "_law_used" "_law_used" s__law_used (He.ga K "_law_used") fd
  F__law_begun : ∃ fd, Fun K "_law_begun" "_law_begun" s__law_begun (He.ga K "_law_begun") fd
  F__law_given : ∃ fd, Fun K "_law_given" "_law_given" s__law_given (He.ga K "_law_given") fd
  F__law_ended : ∃ fd, Fun K "_law_ended" "_law_ended" s__law_ended (He.ga K "_law_ended") fd
  F__law_picture : ∃ fd, Fun K "_law_picture" "_law_picture" s__law_picture (He.ga K "_law_picture") fd
  F__law_all_rooms : ∃ fd, Fun K "_law_all_rooms" "_law_all_rooms" s__law_all_rooms (He.ga K "_law_all_rooms") fd
  F__law_value : ∃ fd, Fun K "_law_value" "_law_value" s__law_value (He.ga K "_law_value") fd
  F__law_deed : ∃ fd, Fun K "_law_deed" "_law_deed" s__law_deed (He.ga K "_law_deed") fd
  F__law_hands : ∃ fd, Fun K "_law_hands" "_law_hands" s__law_hands (He.ga K "_law_hands") fd
  F__law_inner : ∃ fd, Fun K "_law_inner" "_law_inner" s__law_inner (He.ga K "_law_inner") fd
  F__law_steps : ∃ fd, Fun K "_law_steps" "_law_steps" s__law_steps (He.ga K "_law_steps") fd
  F__law_kept : ∃ fd, Fun K "_law_kept" "_law_kept" s__law_kept (He.ga K "_law_kept") fd
  F__law_scene : ∃ fd, Fun K "_law_scene" "_law_scene" s__law_scene (He.ga K "_law_scene") fd
  F__law_chained : ∃ fd, Fun K "_law_chained" "_law_chained" s__law_chained (He.ga K "_law_chained") fd
  F__law_walks : ∃ fd, Fun K "_law_walks" "_law_walks" s__law_walks (He.ga K "_law_walks") fd
  F__law_right : ∃ fd, Fun K "_law_right" "_law_right" s__law_right (He.ga K "_law_right") fd
  F_law : ∃ fd, Fun K "law" "law" s_law (He.ga K "law") fd
  F_NoNumber___init__ : ∃ fd, Fun K "__init__" "NoNumber.__init__" s_NoNumber___init__ (He.ma K (He.ga K "NoNumber") "__init__") fd
  F_NoValue___init__ : ∃ fd, Fun K "__init__" "NoValue.__init__" s_NoValue___init__ (He.ma K (He.ga K "NoValue") "__init__") fd
  F_NoFrame___init__ : ∃ fd, Fun K "__init__" "NoFrame.__init__" s_NoFrame___init__ (He.ma K (He.ga K "NoFrame") "__init__") fd
  F_Gone___init__ : ∃ fd, Fun K "__init__" "Gone.__init__" s_Gone___init__ (He.ma K (He.ga K "Gone") "__init__") fd
  F_TooMany___init__ : ∃ fd, Fun K "__init__" "TooMany.__init__" s_TooMany___init__ (He.ma K (He.ga K "TooMany") "__init__") fd
  F_Full___init__ : ∃ fd, Fun K "__init__" "Full.__init__" s_Full___init__ (He.ma K (He.ga K "Full") "__init__") fd
  F_NoWay___init__ : ∃ fd, Fun K "__init__" "NoWay.__init__" s_NoWay___init__ (He.ma K (He.ga K "NoWay") "__init__") fd
  F_NoCell___init__ : ∃ fd, Fun K "__init__" "NoCell.__init__" s_NoCell___init__ (He.ma K (He.ga K "NoCell") "__init__") fd
  F_NoHands___init__ : ∃ fd, Fun K "__init__" "NoHands.__init__" s_NoHands___init__ (He.ma K (He.ga K "NoHands") "__init__") fd
  F_Frames___init__ : ∃ fd, Fun K "__init__" "Frames.__init__" s_Frames___init__ (He.ma K (He.ga K "Frames") "__init__") fd
  F_House___init__ : ∃ fd, Fun K "__init__" "House.__init__" s_House___init__ (He.ma K (He.ga K "House") "__init__") fd
  F_House_make : ∃ fd, Fun K "make" "House.make" s_House_make (He.ma K (He.ga K "House") "make") fd
  F_House_clear : ∃ fd, Fun K "clear" "House.clear" s_House_clear (He.ma K (He.ga K "House") "clear") fd
  F_House_need_room : ∃ fd, Fun K "need_room" "House.need_room" s_House_need_room (He.ma K (He.ga K "House") "need_room") fd
  F_House_need_cell : ∃ fd, Fun K "need_cell" "House.need_cell" s_House_need_cell (He.ma K (He.ga K "House") "need_cell") fd
  F_House_is_value : ∃ fd, Fun K "is_value" "House.is_value" s_House_is_value (He.ma K (He.ga K "House") "is_value") fd
  F_House_get : ∃ fd, Fun K "get" "House.get" s_House_get (He.ma K (He.ga K "House") "get") fd
  F_House_put : ∃ fd, Fun K "put" "House.put" s_House_put (He.ma K (He.ga K "House") "put") fd
  F_House_size : ∃ fd, Fun K "size" "House.size" s_House_size (He.ma K (He.ga K "House") "size") fd
  F_House_cells : ∃ fd, Fun K "cells" "House.cells" s_House_cells (He.ma K (He.ga K "House") "cells") fd
  F_House_rooms : ∃ fd, Fun K "rooms" "House.rooms" s_House_rooms (He.ma K (He.ga K "House") "rooms") fd
  F_House_used : ∃ fd, Fun K "used" "House.used" s_House_used (He.ma K (He.ga K "House") "used") fd
  F_House_left : ∃ fd, Fun K "left" "House.left" s_House_left (He.ma K (He.ga K "House") "left") fd
  F_House_limit : ∃ fd, Fun K "limit" "House.limit" s_House_limit (He.ma K (He.ga K "House") "limit") fd
  F_House_greatest : ∃ fd, Fun K "greatest" "House.greatest" s_House_greatest (He.ma K (He.ga K "House") "greatest") fd
  F_House_picture : ∃ fd, Fun K "picture" "House.picture" s_House_picture (He.ma K (He.ga K "House") "picture") fd
  F_House_need_begun : ∃ fd, Fun K "need_begun" "Frames.need_begun" s_House_need_begun (He.ma K (He.ga K "House") "need_begun") fd
  F_House_need_standing : ∃ fd, Fun K "need_standing" "Frames.need_standing" s_House_need_standing (He.ma K (He.ga K "House") "need_standing") fd
  F_House_need_more : ∃ fd, Fun K "need_more" "Frames.need_more" s_House_need_more (He.ma K (He.ga K "House") "need_more") fd
  F_House_begin : ∃ fd, Fun K "begin" "Frames.begin" s_House_begin (He.ma K (He.ga K "House") "begin") fd
  F_House_finish : ∃ fd, Fun K "finish" "Frames.finish" s_House_finish (He.ma K (He.ga K "House") "finish") fd
  F_House_stands : ∃ fd, Fun K "stands" "Frames.stands" s_House_stands (He.ma K (He.ga K "House") "stands") fd
  F_House_row : ∃ fd, Fun K "row" "Frames.row" s_House_row (He.ma K (He.ga K "House") "row") fd
  F_House_within : ∃ fd, Fun K "within" "Frames.within" s_House_within (He.ma K (He.ga K "House") "within") fd
  F_House_standing : ∃ fd, Fun K "standing" "Frames.standing" s_House_standing (He.ma K (He.ga K "House") "standing") fd
  F_House_begun : ∃ fd, Fun K "begun" "Frames.begun" s_House_begun (He.ma K (He.ga K "House") "begun") fd
def d_is_number : He.DefD := ⟨("is_number", none), "is_number", "is_number", defArgs s_is_number, defBody s_is_number, defScope s_is_number, [], []⟩
def d_is_whole : He.DefD := ⟨("is_whole", none), "is_whole", "is_whole", defArgs s_is_whole, defBody s_is_whole, defScope s_is_whole, [], []⟩
def d_is_name : He.DefD := ⟨("is_name", none), "is_name", "is_name", defArgs s_is_name, defBody s_is_name, defScope s_is_name, [], []⟩
def d_is_pair : He.DefD := ⟨("is_pair", none), "is_pair", "is_pair", defArgs s_is_pair, defBody s_is_pair, defScope s_is_pair, [], []⟩
def d_need_ending : He.DefD := ⟨("need_ending", none), "need_ending", "need_ending", defArgs s_need_ending, defBody s_need_ending, defScope s_need_ending, [], []⟩
def d_rooms_inside : He.DefD := ⟨("rooms_inside", none), "rooms_inside", "rooms_inside", defArgs s_rooms_inside, defBody s_rooms_inside, defScope s_rooms_inside, [], []⟩
def d_steps_in : He.DefD := ⟨("steps_in", none), "steps_in", "steps_in", defArgs s_steps_in, defBody s_steps_in, defScope s_steps_in, [], []⟩
def d_steps_from : He.DefD := ⟨("steps_from", none), "steps_from", "steps_from", defArgs s_steps_from, defBody s_steps_from, defScope s_steps_from, [], []⟩
def d_kept : He.DefD := ⟨("kept", none), "kept", "kept", defArgs s_kept, defBody s_kept, defScope s_kept, [], []⟩
def d__law_cell : He.DefD := ⟨("_law_cell", none), "_law_cell", "_law_cell", defArgs s__law_cell, defBody s__law_cell, defScope s__law_cell, [], []⟩
def d__law_box : He.DefD := ⟨("_law_box", none), "_law_box", "_law_box", defArgs s__law_box, defBody s__law_box, defScope s__law_box, [], []⟩
def d__law_take : He.DefD := ⟨("_law_take", none), "_law_take", "_law_take", defArgs s__law_take, defBody s__law_take, defScope s__law_take, [], []⟩
def d__law_names : He.DefD := ⟨("_law_names", none), "_law_names", "_law_names", defArgs s__law_names, defBody s__law_names, defScope s__law_names, [], []⟩
def d__law_world : He.DefD := ⟨("_law_world", none), "_law_world", "_law_world", defArgs s__law_world, defBody s__law_world, defScope s__law_world, [], []⟩
def d__law_row : He.DefD := ⟨("_law_row", none), "_law_row", "_law_row", defArgs s__law_row, defBody s__law_row, defScope s__law_row, [], []⟩
def d__law_standing : He.DefD := ⟨("_law_standing", none), "_law_standing", "_law_standing", defArgs s__law_standing, defBody s__law_standing, defScope s__law_standing, [], []⟩
def d__law_used : He.DefD := ⟨("_law_used", none), "_law_used", "_law_used", defArgs s__law_used, defBody s__law_used, defScope s__law_used, [], []⟩
def d__law_begun : He.DefD := ⟨("_law_begun", none), "_law_begun", "_law_begun", defArgs s__law_begun, defBody s__law_begun, defScope s__law_begun, [], []⟩
def d__law_given : He.DefD := ⟨("_law_given", none), "_law_given", "_law_given", defArgs s__law_given, defBody s__law_given, defScope s__law_given, [], []⟩
def d__law_ended : He.DefD := ⟨("_law_ended", none), "_law_ended", "_law_ended", defArgs s__law_ended, defBody s__law_ended, defScope s__law_ended, [], []⟩
def d__law_picture : He.DefD := ⟨("_law_picture", none), "_law_picture", "_law_picture", defArgs s__law_picture, defBody s__law_picture, defScope s__law_picture, [], []⟩
def d__law_all_rooms : He.DefD := ⟨("_law_all_rooms", none), "_law_all_rooms", "_law_all_rooms", defArgs s__law_all_rooms, defBody s__law_all_rooms, defScope s__law_all_rooms, [], []⟩
def d__law_value : He.DefD := ⟨("_law_value", none), "_law_value", "_law_value", defArgs s__law_value, defBody s__law_value, defScope s__law_value, [], []⟩
def d__law_deed : He.DefD := ⟨("_law_deed", none), "_law_deed", "_law_deed", defArgs s__law_deed, defBody s__law_deed, defScope s__law_deed, [], []⟩
def d__law_hands : He.DefD := ⟨("_law_hands", none), "_law_hands", "_law_hands", defArgs s__law_hands, defBody s__law_hands, defScope s__law_hands, [], []⟩
def d__law_inner : He.DefD := ⟨("_law_inner", none), "_law_inner", "_law_inner", defArgs s__law_inner, defBody s__law_inner, defScope s__law_inner, [], []⟩
def d__law_steps : He.DefD := ⟨("_law_steps", none), "_law_steps", "_law_steps", defArgs s__law_steps, defBody s__law_steps, defScope s__law_steps, [], []⟩
def d__law_kept : He.DefD := ⟨("_law_kept", none), "_law_kept", "_law_kept", defArgs s__law_kept, defBody s__law_kept, defScope s__law_kept, [], []⟩
def d__law_scene : He.DefD := ⟨("_law_scene", none), "_law_scene", "_law_scene", defArgs s__law_scene, defBody s__law_scene, defScope s__law_scene, [], []⟩
def d__law_chained : He.DefD := ⟨("_law_chained", none), "_law_chained", "_law_chained", defArgs s__law_chained, defBody s__law_chained, defScope s__law_chained, [], []⟩
def d__law_walks : He.DefD := ⟨("_law_walks", none), "_law_walks", "_law_walks", defArgs s__law_walks, defBody s__law_walks, defScope s__law_walks, [], []⟩
def d__law_right : He.DefD := ⟨("_law_right", none), "_law_right", "_law_right", defArgs s__law_right, defBody s__law_right, defScope s__law_right, [], []⟩
def d_law : He.DefD := ⟨("law", none), "law", "law", defArgs s_law, defBody s_law, defScope s_law, [], []⟩
def d_NoNumber___init__ : He.DefD := ⟨("NoNumber", some "__init__"), "__init__", "NoNumber.__init__", defArgs s_NoNumber___init__, defBody s_NoNumber___init__, defScope s_NoNumber___init__, [], []⟩
def d_NoValue___init__ : He.DefD := ⟨("NoValue", some "__init__"), "__init__", "NoValue.__init__", defArgs s_NoValue___init__, defBody s_NoValue___init__, defScope s_NoValue___init__, [], []⟩
def d_NoFrame___init__ : He.DefD := ⟨("NoFrame", some "__init__"), "__init__", "NoFrame.__init__", defArgs s_NoFrame___init__, defBody s_NoFrame___init__, defScope s_NoFrame___init__, [], []⟩
def d_Gone___init__ : He.DefD := ⟨("Gone", some "__init__"), "__init__", "Gone.__init__", defArgs s_Gone___init__, defBody s_Gone___init__, defScope s_Gone___init__, [], []⟩
def d_TooMany___init__ : He.DefD := ⟨("TooMany", some "__init__"), "__init__", "TooMany.__init__", defArgs s_TooMany___init__, defBody s_TooMany___init__, defScope s_TooMany___init__, [], []⟩
def d_Full___init__ : He.DefD := ⟨("Full", some "__init__"), "__init__", "Full.__init__", defArgs s_Full___init__, defBody s_Full___init__, defScope s_Full___init__, [], []⟩
def d_NoWay___init__ : He.DefD := ⟨("NoWay", some "__init__"), "__init__", "NoWay.__init__", defArgs s_NoWay___init__, defBody s_NoWay___init__, defScope s_NoWay___init__, [], []⟩
def d_NoCell___init__ : He.DefD := ⟨("NoCell", some "__init__"), "__init__", "NoCell.__init__", defArgs s_NoCell___init__, defBody s_NoCell___init__, defScope s_NoCell___init__, [], []⟩
def d_NoHands___init__ : He.DefD := ⟨("NoHands", some "__init__"), "__init__", "NoHands.__init__", defArgs s_NoHands___init__, defBody s_NoHands___init__, defScope s_NoHands___init__, [], []⟩
def d_Frames___init__ : He.DefD := ⟨("Frames", some "__init__"), "__init__", "Frames.__init__", defArgs s_Frames___init__, defBody s_Frames___init__, defScope s_Frames___init__, [], []⟩
def d_House___init__ : He.DefD := ⟨("House", some "__init__"), "__init__", "House.__init__", defArgs s_House___init__, defBody s_House___init__, defScope s_House___init__, [], []⟩
def d_House_make : He.DefD := ⟨("House", some "make"), "make", "House.make", defArgs s_House_make, defBody s_House_make, defScope s_House_make, [], []⟩
def d_House_clear : He.DefD := ⟨("House", some "clear"), "clear", "House.clear", defArgs s_House_clear, defBody s_House_clear, defScope s_House_clear, [], []⟩
def d_House_need_room : He.DefD := ⟨("House", some "need_room"), "need_room", "House.need_room", defArgs s_House_need_room, defBody s_House_need_room, defScope s_House_need_room, [], []⟩
def d_House_need_cell : He.DefD := ⟨("House", some "need_cell"), "need_cell", "House.need_cell", defArgs s_House_need_cell, defBody s_House_need_cell, defScope s_House_need_cell, [], []⟩
def d_House_is_value : He.DefD := ⟨("House", some "is_value"), "is_value", "House.is_value", defArgs s_House_is_value, defBody s_House_is_value, defScope s_House_is_value, [], []⟩
def d_House_get : He.DefD := ⟨("House", some "get"), "get", "House.get", defArgs s_House_get, defBody s_House_get, defScope s_House_get, [], []⟩
def d_House_put : He.DefD := ⟨("House", some "put"), "put", "House.put", defArgs s_House_put, defBody s_House_put, defScope s_House_put, [], []⟩
def d_House_size : He.DefD := ⟨("House", some "size"), "size", "House.size", defArgs s_House_size, defBody s_House_size, defScope s_House_size, [], []⟩
def d_House_cells : He.DefD := ⟨("House", some "cells"), "cells", "House.cells", defArgs s_House_cells, defBody s_House_cells, defScope s_House_cells, [], []⟩
def d_House_rooms : He.DefD := ⟨("House", some "rooms"), "rooms", "House.rooms", defArgs s_House_rooms, defBody s_House_rooms, defScope s_House_rooms, [], []⟩
def d_House_used : He.DefD := ⟨("House", some "used"), "used", "House.used", defArgs s_House_used, defBody s_House_used, defScope s_House_used, [], []⟩
def d_House_left : He.DefD := ⟨("House", some "left"), "left", "House.left", defArgs s_House_left, defBody s_House_left, defScope s_House_left, [], []⟩
def d_House_limit : He.DefD := ⟨("House", some "limit"), "limit", "House.limit", defArgs s_House_limit, defBody s_House_limit, defScope s_House_limit, [], []⟩
def d_House_greatest : He.DefD := ⟨("House", some "greatest"), "greatest", "House.greatest", defArgs s_House_greatest, defBody s_House_greatest, defScope s_House_greatest, [], []⟩
def d_House_picture : He.DefD := ⟨("House", some "picture"), "picture", "House.picture", defArgs s_House_picture, defBody s_House_picture, defScope s_House_picture, [], []⟩
def d_House_need_begun : He.DefD := ⟨("House", some "need_begun"), "need_begun", "Frames.need_begun", defArgs s_House_need_begun, defBody s_House_need_begun, defScope s_House_need_begun, [], []⟩
def d_House_need_standing : He.DefD := ⟨("House", some "need_standing"), "need_standing", "Frames.need_standing", defArgs s_House_need_standing, defBody s_House_need_standing, defScope s_House_need_standing, [], []⟩
def d_House_need_more : He.DefD := ⟨("House", some "need_more"), "need_more", "Frames.need_more", defArgs s_House_need_more, defBody s_House_need_more, defScope s_House_need_more, [], []⟩
def d_House_begin : He.DefD := ⟨("House", some "begin"), "begin", "Frames.begin", defArgs s_House_begin, defBody s_House_begin, defScope s_House_begin, [], []⟩
def d_House_finish : He.DefD := ⟨("House", some "finish"), "finish", "Frames.finish", defArgs s_House_finish, defBody s_House_finish, defScope s_House_finish, [], []⟩
def d_House_stands : He.DefD := ⟨("House", some "stands"), "stands", "Frames.stands", defArgs s_House_stands, defBody s_House_stands, defScope s_House_stands, [], []⟩
def d_House_row : He.DefD := ⟨("House", some "row"), "row", "Frames.row", defArgs s_House_row, defBody s_House_row, defScope s_House_row, [], []⟩
def d_House_within : He.DefD := ⟨("House", some "within"), "within", "Frames.within", defArgs s_House_within, defBody s_House_within, defScope s_House_within, [], []⟩
def d_House_standing : He.DefD := ⟨("House", some "standing"), "standing", "Frames.standing", defArgs s_House_standing, defBody s_House_standing, defScope s_House_standing, [], []⟩
def d_House_begun : He.DefD := ⟨("House", some "begun"), "begun", "Frames.begun", defArgs s_House_begun, defBody s_House_begun, defScope s_House_begun, [], []⟩
def fnL : List He.DefD := [d_is_number, d_is_whole, d_is_name, d_is_pair, d_need_ending, d_rooms_inside, d_steps_in, d_steps_from, d_kept, d__law_cell, d__law_box, d__law_take, d__law_names, d__law_world, d__law_row, d__law_standing, d__law_used, d__law_begun, d__law_given, d__law_ended, d__law_picture, d__law_all_rooms, d__law_value, d__law_deed, d__law_hands, d__law_inner, d__law_steps, d__law_kept, d__law_scene, d__law_chained, d__law_walks, d__law_right, d_law, d_NoNumber___init__, d_NoValue___init__, d_NoFrame___init__, d_Gone___init__, d_TooMany___init__, d_Full___init__, d_NoWay___init__, d_NoCell___init__, d_NoHands___init__, d_Frames___init__, d_House___init__, d_House_make, d_House_clear, d_House_need_room, d_House_need_cell, d_House_is_value, d_House_get, d_House_put, d_House_size, d_House_cells, d_House_rooms, d_House_used, d_House_left, d_House_limit, d_House_greatest, d_House_picture, d_House_need_begun, d_House_need_standing, d_House_need_more, d_House_begin, d_House_finish, d_House_stands, d_House_row, d_House_within, d_House_standing, d_House_begun]
def faL : List He.Fa := [.glo "is_number", .glo "is_whole", .glo "is_name", .glo "is_pair", .glo "need_ending", .glo "rooms_inside", .glo "steps_in", .glo "steps_from", .glo "kept", .glo "_law_cell", .glo "_law_box", .glo "_law_take", .glo "_law_names", .glo "_law_world", .glo "_law_row", .glo "_law_standing", .glo "_law_used", .glo "_law_begun", .glo "_law_given", .glo "_law_ended", .glo "_law_picture", .glo "_law_all_rooms", .glo "_law_value", .glo "_law_deed", .glo "_law_hands", .glo "_law_inner", .glo "_law_steps", .glo "_law_kept", .glo "_law_scene", .glo "_law_chained", .glo "_law_walks", .glo "_law_right", .glo "law", .glo "House", .glo "Frames", .glo "NoNumber", .glo "NoFrame", .glo "TooMany", .glo "NoWay", .glo "Gone", .glo "Full", .glo "NoCell", .glo "NoValue", .glo "Ground", .glo "NoHands", .glo "RoomError", .free "len", .free "range", .free "repr", .free "isinstance", .free "int", .free "bool", .free "tuple", .free "max", .free "min", .free "reversed", .free "zip", .free "all", .free "sum", .free "list", .free "dict", .free "str", .free "enumerate", .int "MOST" 100, .int "MOST_CELLS" 1000, .int "MOST_SIZE" 6, .str "LETTERS" "abcdefghijklmnopqrstuvwxyz", .int "LONGEST" 6, .str "HAND" "hand", .str "ROOM" "room", .cls "House", .noat "House" "holders", .noat "House" "takers", .noat "House" "most", .noat "House" "top", .noat "House" "given", .noat "House" "filled", .noat "House" "sizes", .noat "House" "held", .meth "House" "make", .meth "House" "clear", .meth "House" "need_room", .meth "House" "need_cell", .meth "House" "is_value", .meth "House" "get", .meth "House" "put", .meth "House" "size", .meth "House" "cells", .meth "House" "rooms", .meth "House" "used", .meth "House" "left", .meth "House" "limit", .meth "House" "greatest", .meth "House" "picture", .meth "House" "need_begun", .meth "House" "need_standing", .meth "House" "need_more", .meth "House" "begin", .meth "House" "finish", .meth "House" "stands", .meth "House" "row", .meth "House" "within", .meth "House" "standing", .meth "House" "begun", .mkr "House"]
def exL : List Xa := [.oex "NoNumber" ["found"], .oex "NoFrame" ["found"], .oex "TooMany" ["many"], .oex "NoWay" ["found"], .oex "Gone" ["found", "by"], .oex "Full" ["need", "spare"], .oex "NoCell" ["found"], .oex "NoValue" ["found"], .zer "Ground", .oex "NoHands" ["found"], .prop fun K => unbB K (He.ga K "Frames") "__init__" (He.ma K (He.ga K "Frames") "__init__")]
def exF (K : PySem.W.Frag) : Bool := exL.all fun x => x.ok K
theorem tx_of {K : PySem.W.Frag} {h : Heap} {mg : Str → Option Value} (X : K.In h) (G : h.Ns mainGlobals mg) (c : He.SaysD faL fnL K) (hx : (exL.all fun x => x.ok K) = true) : Tx K mg := ⟨
(He.glo_ok X G (c.fact 0 (f := .glo "is_number") rfl)),
  (He.glo_ok X G (c.fact 1 (f := .glo "is_whole") rfl)),
  (He.glo_ok X G (c.fact 2 (f := .glo "is_name") rfl)),
  (He.glo_ok X G (c.fact 3 (f := .glo "is_pair") rfl)),
  (He.glo_ok X G (c.fact 4 (f := .glo "need_ending") rfl)),
  (He.glo_ok X G (c.fact 5 (f := .glo "rooms_inside") rfl)),
  (He.glo_ok X G (c.fact 6 (f := .glo "steps_in") rfl)),
  (He.glo_ok X G (c.fact 7 (f := .glo "steps_from") rfl)),
  (He.glo_ok X G (c.fact 8 (f := .glo "kept") rfl)),
  (He.glo_ok X G (c.fact 9 (f := .glo "_law_cell") rfl)),
  (He.glo_ok X G (c.fact 10 (f := .glo "_law_box") rfl)),
  (He.glo_ok X G (c.fact 11 (f := .glo "_law_take") rfl)),
  (He.glo_ok X G (c.fact 12 (f := .glo "_law_names") rfl)),
  (He.glo_ok X G (c.fact 13 (f := .glo "_law_world") rfl)),
  (He.glo_ok X G (c.fact 14 (f := .glo "_law_row") rfl)),
  (He.glo_ok X G (c.fact 15 (f := .glo "_law_standing") rfl)),
  (He.glo_ok X G (c.fact 16 (f := .glo "_law_used") rfl)),
  (He.glo_ok X G (c.fact 17 (f := .glo "_law_begun") rfl)),
  (He.glo_ok X G (c.fact 18 (f := .glo "_law_given") rfl)),
  (He.glo_ok X G (c.fact 19 (f := .glo "_law_ended") rfl)),
  (He.glo_ok X G (c.fact 20 (f := .glo "_law_picture") rfl)),
  (He.glo_ok X G (c.fact 21 (f := .glo "_law_all_rooms") rfl)),
  (He.glo_ok X G (c.fact 22 (f := .glo "_law_value") rfl)),
  (He.glo_ok X G (c.fact 23 (f := .glo "_law_deed") rfl)),
  (He.glo_ok X G (c.fact 24 (f := .glo "_law_hands") rfl)),
  (He.glo_ok X G (c.fact 25 (f := .glo "_law_inner") rfl)),
  (He.glo_ok X G (c.fact 26 (f := .glo "_law_steps") rfl)),
  (He.glo_ok X G (c.fact 27 (f := .glo "_law_kept") rfl)),
  (He.glo_ok X G (c.fact 28 (f := .glo "_law_scene") rfl)),
  (He.glo_ok X G (c.fact 29 (f := .glo "_law_chained") rfl)),
  (He.glo_ok X G (c.fact 30 (f := .glo "_law_walks") rfl)),
  (He.glo_ok X G (c.fact 31 (f := .glo "_law_right") rfl)),
  (He.glo_ok X G (c.fact 32 (f := .glo "law") rfl)),
  (He.glo_ok X G (c.fact 33 (f := .glo "House") rfl)),
  (He.glo_ok X G (c.fact 34 (f := .glo "Frames") rfl)),
  (He.glo_ok X G (c.fact 35 (f := .glo "NoNumber") rfl)),
  (He.glo_ok X G (c.fact 36 (f := .glo "NoFrame") rfl)),
  (He.glo_ok X G (c.fact 37 (f := .glo "TooMany") rfl)),
  (He.glo_ok X G (c.fact 38 (f := .glo "NoWay") rfl)),
  (He.glo_ok X G (c.fact 39 (f := .glo "Gone") rfl)),
  (He.glo_ok X G (c.fact 40 (f := .glo "Full") rfl)),
  (He.glo_ok X G (c.fact 41 (f := .glo "NoCell") rfl)),
  (He.glo_ok X G (c.fact 42 (f := .glo "NoValue") rfl)),
  (He.glo_ok X G (c.fact 43 (f := .glo "Ground") rfl)),
  (He.glo_ok X G (c.fact 44 (f := .glo "NoHands") rfl)),
  (He.glo_ok X G (c.fact 45 (f := .glo "RoomError") rfl)),
  (He.free_ok X G (c.fact 46 (f := .free "len") rfl)),
  (He.free_ok X G (c.fact 47 (f := .free "range") rfl)),
  (He.free_ok X G (c.fact 48 (f := .free "repr") rfl)),
  (He.free_ok X G (c.fact 49 (f := .free "isinstance") rfl)),
  (He.free_ok X G (c.fact 50 (f := .free "int") rfl)),
  (He.free_ok X G (c.fact 51 (f := .free "bool") rfl)),
  (He.free_ok X G (c.fact 52 (f := .free "tuple") rfl)),
  (He.free_ok X G (c.fact 53 (f := .free "max") rfl)),
  (He.free_ok X G (c.fact 54 (f := .free "min") rfl)),
  (He.free_ok X G (c.fact 55 (f := .free "reversed") rfl)),
  (He.free_ok X G (c.fact 56 (f := .free "zip") rfl)),
  (He.free_ok X G (c.fact 57 (f := .free "all") rfl)),
  (He.free_ok X G (c.fact 58 (f := .free "sum") rfl)),
  (He.free_ok X G (c.fact 59 (f := .free "list") rfl)),
  (He.free_ok X G (c.fact 60 (f := .free "dict") rfl)),
  (He.free_ok X G (c.fact 61 (f := .free "str") rfl)),
  (He.free_ok X G (c.fact 62 (f := .free "enumerate") rfl)),
  (He.int_ok X G (c.fact 63 (f := .int "MOST" 100) rfl)),
  (He.int_ok X G (c.fact 64 (f := .int "MOST_CELLS" 1000) rfl)),
  (He.int_ok X G (c.fact 65 (f := .int "MOST_SIZE" 6) rfl)),
  (He.str_ok X G (c.fact 66 (f := .str "LETTERS" "abcdefghijklmnopqrstuvwxyz") rfl)),
  (He.int_ok X G (c.fact 67 (f := .int "LONGEST" 6) rfl)),
  (He.str_ok X G (c.fact 68 (f := .str "HAND" "hand") rfl)),
  (He.str_ok X G (c.fact 69 (f := .str "ROOM" "room") rfl)),
  (He.cls_ok (c.fact 70 (f := .cls "House") rfl)),
  (He.noat_ok (c.fact 71 (f := .noat "House" "holders") rfl)),
  (He.noat_ok (c.fact 72 (f := .noat "House" "takers") rfl)),
  (He.noat_ok (c.fact 73 (f := .noat "House" "most") rfl)),
  (He.noat_ok (c.fact 74 (f := .noat "House" "top") rfl)),
  (He.noat_ok (c.fact 75 (f := .noat "House" "given") rfl)),
  (He.noat_ok (c.fact 76 (f := .noat "House" "filled") rfl)),
  (He.noat_ok (c.fact 77 (f := .noat "House" "sizes") rfl)),
  (He.noat_ok (c.fact 78 (f := .noat "House" "held") rfl)),
  (He.meth_ok (c.fact 79 (f := .meth "House" "make") rfl)),
  (He.meth_ok (c.fact 80 (f := .meth "House" "clear") rfl)),
  (He.meth_ok (c.fact 81 (f := .meth "House" "need_room") rfl)),
  (He.meth_ok (c.fact 82 (f := .meth "House" "need_cell") rfl)),
  (He.meth_ok (c.fact 83 (f := .meth "House" "is_value") rfl)),
  (He.meth_ok (c.fact 84 (f := .meth "House" "get") rfl)),
  (He.meth_ok (c.fact 85 (f := .meth "House" "put") rfl)),
  (He.meth_ok (c.fact 86 (f := .meth "House" "size") rfl)),
  (He.meth_ok (c.fact 87 (f := .meth "House" "cells") rfl)),
  (He.meth_ok (c.fact 88 (f := .meth "House" "rooms") rfl)),
  (He.meth_ok (c.fact 89 (f := .meth "House" "used") rfl)),
  (He.meth_ok (c.fact 90 (f := .meth "House" "left") rfl)),
  (He.meth_ok (c.fact 91 (f := .meth "House" "limit") rfl)),
  (He.meth_ok (c.fact 92 (f := .meth "House" "greatest") rfl)),
  (He.meth_ok (c.fact 93 (f := .meth "House" "picture") rfl)),
  (He.meth_ok (c.fact 94 (f := .meth "House" "need_begun") rfl)),
  (He.meth_ok (c.fact 95 (f := .meth "House" "need_standing") rfl)),
  (He.meth_ok (c.fact 96 (f := .meth "House" "need_more") rfl)),
  (He.meth_ok (c.fact 97 (f := .meth "House" "begin") rfl)),
  (He.meth_ok (c.fact 98 (f := .meth "House" "finish") rfl)),
  (He.meth_ok (c.fact 99 (f := .meth "House" "stands") rfl)),
  (He.meth_ok (c.fact 100 (f := .meth "House" "row") rfl)),
  (He.meth_ok (c.fact 101 (f := .meth "House" "within") rfl)),
  (He.meth_ok (c.fact 102 (f := .meth "House" "standing") rfl)),
  (He.meth_ok (c.fact 103 (f := .meth "House" "begun") rfl)),
  (He.mkr_ok (c.fact 104 (f := .mkr "House") rfl)),
  (oex_ok (c := "NoNumber") (fs := ["found"]) (xa_at hx 0 rfl)),
  (oex_ok (c := "NoFrame") (fs := ["found"]) (xa_at hx 1 rfl)),
  (oex_ok (c := "TooMany") (fs := ["many"]) (xa_at hx 2 rfl)),
  (oex_ok (c := "NoWay") (fs := ["found"]) (xa_at hx 3 rfl)),
  (oex_ok (c := "Gone") (fs := ["found", "by"]) (xa_at hx 4 rfl)),
  (oex_ok (c := "Full") (fs := ["need", "spare"]) (xa_at hx 5 rfl)),
  (oex_ok (c := "NoCell") (fs := ["found"]) (xa_at hx 6 rfl)),
  (oex_ok (c := "NoValue") (fs := ["found"]) (xa_at hx 7 rfl)),
  (zer_ok (c := "Ground") (xa_at hx 8 rfl)),
  (oex_ok (c := "NoHands") (fs := ["found"]) (xa_at hx 9 rfl)),
  (unbB_ok (xa_at hx 10 rfl)),
  (let ⟨fd, h⟩ := c.def_ 0 (d := d_is_number) rfl; ⟨fd, FG.toFun (st := s_is_number) h⟩),
  (let ⟨fd, h⟩ := c.def_ 1 (d := d_is_whole) rfl; ⟨fd, FG.toFun (st := s_is_whole) h⟩),
  (let ⟨fd, h⟩ := c.def_ 2 (d := d_is_name) rfl; ⟨fd, FG.toFun (st := s_is_name) h⟩),
  (let ⟨fd, h⟩ := c.def_ 3 (d := d_is_pair) rfl; ⟨fd, FG.toFun (st := s_is_pair) h⟩),
  (let ⟨fd, h⟩ := c.def_ 4 (d := d_need_ending) rfl; ⟨fd, FG.toFun (st := s_need_ending) h⟩),
  (let ⟨fd, h⟩ := c.def_ 5 (d := d_rooms_inside) rfl; ⟨fd, FG.toFun (st := s_rooms_inside) h⟩),
  (let ⟨fd, h⟩ := c.def_ 6 (d := d_steps_in) rfl; ⟨fd, FG.toFun (st := s_steps_in) h⟩),
  (let ⟨fd, h⟩ := c.def_ 7 (d := d_steps_from) rfl; ⟨fd, FG.toFun (st := s_steps_from) h⟩),
  (let ⟨fd, h⟩ := c.def_ 8 (d := d_kept) rfl; ⟨fd, FG.toFun (st := s_kept) h⟩),
  (let ⟨fd, h⟩ := c.def_ 9 (d := d__law_cell) rfl; ⟨fd, FG.toFun (st := s__law_cell) h⟩),
  (let ⟨fd, h⟩ := c.def_ 10 (d := d__law_box) rfl; ⟨fd, FG.toFun (st := s__law_box) h⟩),
  (let ⟨fd, h⟩ := c.def_ 11 (d := d__law_take) rfl; ⟨fd, FG.toFun (st := s__law_take) h⟩),
  (let ⟨fd, h⟩ := c.def_ 12 (d := d__law_names) rfl; ⟨fd, FG.toFun (st := s__law_names) h⟩),
  (let ⟨fd, h⟩ := c.def_ 13 (d := d__law_world) rfl; ⟨fd, FG.toFun (st := s__law_world) h⟩),
  (let ⟨fd, h⟩ := c.def_ 14 (d := d__law_row) rfl; ⟨fd, FG.toFun (st := s__law_row) h⟩),
  (let ⟨fd, h⟩ := c.def_ 15 (d := d__law_standing) rfl; ⟨fd, FG.toFun (st := s__law_standing) h⟩),
  (let ⟨fd, h⟩ := c.def_ 16 (d := d__law_used) rfl; ⟨fd, FG.toFun (st := s__law_used) h⟩),
  (let ⟨fd, h⟩ := c.def_ 17 (d := d__law_begun) rfl; ⟨fd, FG.toFun (st := s__law_begun) h⟩),
  (let ⟨fd, h⟩ := c.def_ 18 (d := d__law_given) rfl; ⟨fd, FG.toFun (st := s__law_given) h⟩),
  (let ⟨fd, h⟩ := c.def_ 19 (d := d__law_ended) rfl; ⟨fd, FG.toFun (st := s__law_ended) h⟩),
  (let ⟨fd, h⟩ := c.def_ 20 (d := d__law_picture) rfl; ⟨fd, FG.toFun (st := s__law_picture) h⟩),
  (let ⟨fd, h⟩ := c.def_ 21 (d := d__law_all_rooms) rfl; ⟨fd, FG.toFun (st := s__law_all_rooms) h⟩),
  (let ⟨fd, h⟩ := c.def_ 22 (d := d__law_value) rfl; ⟨fd, FG.toFun (st := s__law_value) h⟩),
  (let ⟨fd, h⟩ := c.def_ 23 (d := d__law_deed) rfl; ⟨fd, FG.toFun (st := s__law_deed) h⟩),
  (let ⟨fd, h⟩ := c.def_ 24 (d := d__law_hands) rfl; ⟨fd, FG.toFun (st := s__law_hands) h⟩),
  (let ⟨fd, h⟩ := c.def_ 25 (d := d__law_inner) rfl; ⟨fd, FG.toFun (st := s__law_inner) h⟩),
  (let ⟨fd, h⟩ := c.def_ 26 (d := d__law_steps) rfl; ⟨fd, FG.toFun (st := s__law_steps) h⟩),
  (let ⟨fd, h⟩ := c.def_ 27 (d := d__law_kept) rfl; ⟨fd, FG.toFun (st := s__law_kept) h⟩),
  (let ⟨fd, h⟩ := c.def_ 28 (d := d__law_scene) rfl; ⟨fd, FG.toFun (st := s__law_scene) h⟩),
  (let ⟨fd, h⟩ := c.def_ 29 (d := d__law_chained) rfl; ⟨fd, FG.toFun (st := s__law_chained) h⟩),
  (let ⟨fd, h⟩ := c.def_ 30 (d := d__law_walks) rfl; ⟨fd, FG.toFun (st := s__law_walks) h⟩),
  (let ⟨fd, h⟩ := c.def_ 31 (d := d__law_right) rfl; ⟨fd, FG.toFun (st := s__law_right) h⟩),
  (let ⟨fd, h⟩ := c.def_ 32 (d := d_law) rfl; ⟨fd, FG.toFun (st := s_law) h⟩),
  (let ⟨fd, h⟩ := c.def_ 33 (d := d_NoNumber___init__) rfl; ⟨fd, FG.toFun (st := s_NoNumber___init__) h⟩),
  (let ⟨fd, h⟩ := c.def_ 34 (d := d_NoValue___init__) rfl; ⟨fd, FG.toFun (st := s_NoValue___init__) h⟩),
  (let ⟨fd, h⟩ := c.def_ 35 (d := d_NoFrame___init__) rfl; ⟨fd, FG.toFun (st := s_NoFrame___init__) h⟩),
  (let ⟨fd, h⟩ := c.def_ 36 (d := d_Gone___init__) rfl; ⟨fd, FG.toFun (st := s_Gone___init__) h⟩),
  (let ⟨fd, h⟩ := c.def_ 37 (d := d_TooMany___init__) rfl; ⟨fd, FG.toFun (st := s_TooMany___init__) h⟩),
  (let ⟨fd, h⟩ := c.def_ 38 (d := d_Full___init__) rfl; ⟨fd, FG.toFun (st := s_Full___init__) h⟩),
  (let ⟨fd, h⟩ := c.def_ 39 (d := d_NoWay___init__) rfl; ⟨fd, FG.toFun (st := s_NoWay___init__) h⟩),
  (let ⟨fd, h⟩ := c.def_ 40 (d := d_NoCell___init__) rfl; ⟨fd, FG.toFun (st := s_NoCell___init__) h⟩),
  (let ⟨fd, h⟩ := c.def_ 41 (d := d_NoHands___init__) rfl; ⟨fd, FG.toFun (st := s_NoHands___init__) h⟩),
  (let ⟨fd, h⟩ := c.def_ 42 (d := d_Frames___init__) rfl; ⟨fd, FG.toFun (st := s_Frames___init__) h⟩),
  (let ⟨fd, h⟩ := c.def_ 43 (d := d_House___init__) rfl; ⟨fd, FG.toFun (st := s_House___init__) h⟩),
  (let ⟨fd, h⟩ := c.def_ 44 (d := d_House_make) rfl; ⟨fd, FG.toFun (st := s_House_make) h⟩),
  (let ⟨fd, h⟩ := c.def_ 45 (d := d_House_clear) rfl; ⟨fd, FG.toFun (st := s_House_clear) h⟩),
  (let ⟨fd, h⟩ := c.def_ 46 (d := d_House_need_room) rfl; ⟨fd, FG.toFun (st := s_House_need_room) h⟩),
  (let ⟨fd, h⟩ := c.def_ 47 (d := d_House_need_cell) rfl; ⟨fd, FG.toFun (st := s_House_need_cell) h⟩),
  (let ⟨fd, h⟩ := c.def_ 48 (d := d_House_is_value) rfl; ⟨fd, FG.toFun (st := s_House_is_value) h⟩),
  (let ⟨fd, h⟩ := c.def_ 49 (d := d_House_get) rfl; ⟨fd, FG.toFun (st := s_House_get) h⟩),
  (let ⟨fd, h⟩ := c.def_ 50 (d := d_House_put) rfl; ⟨fd, FG.toFun (st := s_House_put) h⟩),
  (let ⟨fd, h⟩ := c.def_ 51 (d := d_House_size) rfl; ⟨fd, FG.toFun (st := s_House_size) h⟩),
  (let ⟨fd, h⟩ := c.def_ 52 (d := d_House_cells) rfl; ⟨fd, FG.toFun (st := s_House_cells) h⟩),
  (let ⟨fd, h⟩ := c.def_ 53 (d := d_House_rooms) rfl; ⟨fd, FG.toFun (st := s_House_rooms) h⟩),
  (let ⟨fd, h⟩ := c.def_ 54 (d := d_House_used) rfl; ⟨fd, FG.toFun (st := s_House_used) h⟩),
  (let ⟨fd, h⟩ := c.def_ 55 (d := d_House_left) rfl; ⟨fd, FG.toFun (st := s_House_left) h⟩),
  (let ⟨fd, h⟩ := c.def_ 56 (d := d_House_limit) rfl; ⟨fd, FG.toFun (st := s_House_limit) h⟩),
  (let ⟨fd, h⟩ := c.def_ 57 (d := d_House_greatest) rfl; ⟨fd, FG.toFun (st := s_House_greatest) h⟩),
  (let ⟨fd, h⟩ := c.def_ 58 (d := d_House_picture) rfl; ⟨fd, FG.toFun (st := s_House_picture) h⟩),
  (let ⟨fd, h⟩ := c.def_ 59 (d := d_House_need_begun) rfl; ⟨fd, FG.toFun (st := s_House_need_begun) h⟩),
  (let ⟨fd, h⟩ := c.def_ 60 (d := d_House_need_standing) rfl; ⟨fd, FG.toFun (st := s_House_need_standing) h⟩),
  (let ⟨fd, h⟩ := c.def_ 61 (d := d_House_need_more) rfl; ⟨fd, FG.toFun (st := s_House_need_more) h⟩),
  (let ⟨fd, h⟩ := c.def_ 62 (d := d_House_begin) rfl; ⟨fd, FG.toFun (st := s_House_begin) h⟩),
  (let ⟨fd, h⟩ := c.def_ 63 (d := d_House_finish) rfl; ⟨fd, FG.toFun (st := s_House_finish) h⟩),
  (let ⟨fd, h⟩ := c.def_ 64 (d := d_House_stands) rfl; ⟨fd, FG.toFun (st := s_House_stands) h⟩),
  (let ⟨fd, h⟩ := c.def_ 65 (d := d_House_row) rfl; ⟨fd, FG.toFun (st := s_House_row) h⟩),
  (let ⟨fd, h⟩ := c.def_ 66 (d := d_House_within) rfl; ⟨fd, FG.toFun (st := s_House_within) h⟩),
  (let ⟨fd, h⟩ := c.def_ 67 (d := d_House_standing) rfl; ⟨fd, FG.toFun (st := s_House_standing) h⟩),
  (let ⟨fd, h⟩ := c.def_ 68 (d := d_House_begun) rfl; ⟨fd, FG.toFun (st := s_House_begun) h⟩)⟩
end Lw
namespace Lw
open PySem PySem.Spec L2 FG
open PyProof.Rows hiding St
section
variable {P : Program} {w : World} {K : PySem.W.Frag} {mg : Str → Option Value} {base : Heap}
theorem rai_NoNumber (T : Tx K mg) : Rai P w K mg base "NoNumber" (He.ga K "NoNumber") ["found"] := by
  refine Rai.of T.x_NoNumber T.g_NoNumber T.F_NoNumber___init__ (fun F => F.binds (ps := ["self", "found"]) fun _ _ _ _ _ _ us hl => match us, hl with | [_, _], _ => rfl) fun F => FnG.of F sc_NoNumber___init__ (fun vs H Q E h => ?_) (fun cdv A outer s H vs Q E hr h => ?_) (ps := ["self", "found"])
  · obtain ⟨a, C, ys, rfl, hl, _⟩ := h; simpa using hl
  · obtain ⟨a, C, ys, rfl, hl, xc, ea, q⟩ := h
    match ys, hl with
    | [y], _ =>
      refine ⟨_, pss_one (ps_ost (pv 0) (pv 1)), ?_⟩
      refine ⟨_, rfl, _, rfl, a, C, rfl, xc.o, xc.no _ (by decide +kernel), .inl ⟨ea, fun d hd nd => ?_⟩⟩
      exact q d _ hd nd upd_same ((upd_ne nd).trans upd_same) fun b h1 h2 => (upd_ne h1).trans (upd_ne h2)
theorem rai_NoFrame (T : Tx K mg) : Rai P w K mg base "NoFrame" (He.ga K "NoFrame") ["found"] := by
  refine Rai.of T.x_NoFrame T.g_NoFrame T.F_NoFrame___init__ (fun F => F.binds (ps := ["self", "found"]) fun _ _ _ _ _ _ us hl => match us, hl with | [_, _], _ => rfl) fun F => FnG.of F sc_NoFrame___init__ (fun vs H Q E h => ?_) (fun cdv A outer s H vs Q E hr h => ?_) (ps := ["self", "found"])
  · obtain ⟨a, C, ys, rfl, hl, _⟩ := h; simpa using hl
  · obtain ⟨a, C, ys, rfl, hl, xc, ea, q⟩ := h
    match ys, hl with
    | [y], _ =>
      refine ⟨_, pss_one (ps_ost (pv 0) (pv 1)), ?_⟩
      refine ⟨_, rfl, _, rfl, a, C, rfl, xc.o, xc.no _ (by decide +kernel), .inl ⟨ea, fun d hd nd => ?_⟩⟩
      exact q d _ hd nd upd_same ((upd_ne nd).trans upd_same) fun b h1 h2 => (upd_ne h1).trans (upd_ne h2)
theorem rai_TooMany (T : Tx K mg) : Rai P w K mg base "TooMany" (He.ga K "TooMany") ["many"] := by
  refine Rai.of T.x_TooMany T.g_TooMany T.F_TooMany___init__ (fun F => F.binds (ps := ["self", "many"]) fun _ _ _ _ _ _ us hl => match us, hl with | [_, _], _ => rfl) fun F => FnG.of F sc_TooMany___init__ (fun vs H Q E h => ?_) (fun cdv A outer s H vs Q E hr h => ?_) (ps := ["self", "many"])
  · obtain ⟨a, C, ys, rfl, hl, _⟩ := h; simpa using hl
  · obtain ⟨a, C, ys, rfl, hl, xc, ea, q⟩ := h
    match ys, hl with
    | [y], _ =>
      refine ⟨_, pss_one (ps_ost (pv 0) (pv 1)), ?_⟩
      refine ⟨_, rfl, _, rfl, a, C, rfl, xc.o, xc.no _ (by decide +kernel), .inl ⟨ea, fun d hd nd => ?_⟩⟩
      exact q d _ hd nd upd_same ((upd_ne nd).trans upd_same) fun b h1 h2 => (upd_ne h1).trans (upd_ne h2)
theorem rai_NoWay (T : Tx K mg) : Rai P w K mg base "NoWay" (He.ga K "NoWay") ["found"] := by
  refine Rai.of T.x_NoWay T.g_NoWay T.F_NoWay___init__ (fun F => F.binds (ps := ["self", "found"]) fun _ _ _ _ _ _ us hl => match us, hl with | [_, _], _ => rfl) fun F => FnG.of F sc_NoWay___init__ (fun vs H Q E h => ?_) (fun cdv A outer s H vs Q E hr h => ?_) (ps := ["self", "found"])
  · obtain ⟨a, C, ys, rfl, hl, _⟩ := h; simpa using hl
  · obtain ⟨a, C, ys, rfl, hl, xc, ea, q⟩ := h
    match ys, hl with
    | [y], _ =>
      refine ⟨_, pss_one (ps_ost (pv 0) (pv 1)), ?_⟩
      refine ⟨_, rfl, _, rfl, a, C, rfl, xc.o, xc.no _ (by decide +kernel), .inl ⟨ea, fun d hd nd => ?_⟩⟩
      exact q d _ hd nd upd_same ((upd_ne nd).trans upd_same) fun b h1 h2 => (upd_ne h1).trans (upd_ne h2)
theorem rai_Gone (T : Tx K mg) : Rai P w K mg base "Gone" (He.ga K "Gone") ["found", "by"] := by
  refine Rai.of T.x_Gone T.g_Gone T.F_Gone___init__ (fun F => F.binds (ps := ["self", "found", "by"]) fun _ _ _ _ _ _ us hl => match us, hl with | [_, _, _], _ => rfl) fun F => FnG.of F sc_Gone___init__ (fun vs H Q E h => ?_) (fun cdv A outer s H vs Q E hr h => ?_) (ps := ["self", "found", "by"])
  · obtain ⟨a, C, ys, rfl, hl, _⟩ := h; simpa using hl
  · obtain ⟨a, C, ys, rfl, hl, xc, ea, q⟩ := h
    match ys, hl with
    | [y, z], _ =>
      refine ⟨_, pss_cons (ps_ost (pv 0) (pv 1)) (pss_one (ps_ost (pv 0) (pv 2))), ?_⟩
      refine ⟨_, rfl, _, rfl, a, C, rfl, xc.o, xc.no _ (by decide +kernel), .inl ⟨ea, fun d hd nd => ?_⟩⟩
      refine ⟨_, rfl, _, rfl, a, C, rfl, xc.o, xc.no _ (by decide +kernel), .inr ⟨d, _, upd_same, (upd_ne nd).trans upd_same, (by show 1 ≤ 900; decide), ?_⟩⟩
      exact q d _ hd nd ((upd_ne nd.symm).trans upd_same) upd_same fun b h1 h2 => (upd_ne h2).trans ((upd_ne h1).trans (upd_ne h2))
theorem rai_Full (T : Tx K mg) : Rai P w K mg base "Full" (He.ga K "Full") ["need", "spare"] := by
  refine Rai.of T.x_Full T.g_Full T.F_Full___init__ (fun F => F.binds (ps := ["self", "need", "spare"]) fun _ _ _ _ _ _ us hl => match us, hl with | [_, _, _], _ => rfl) fun F => FnG.of F sc_Full___init__ (fun vs H Q E h => ?_) (fun cdv A outer s H vs Q E hr h => ?_) (ps := ["self", "need", "spare"])
  · obtain ⟨a, C, ys, rfl, hl, _⟩ := h; simpa using hl
  · obtain ⟨a, C, ys, rfl, hl, xc, ea, q⟩ := h
    match ys, hl with
    | [y, z], _ =>
      refine ⟨_, pss_cons (ps_ost (pv 0) (pv 1)) (pss_one (ps_ost (pv 0) (pv 2))), ?_⟩
      refine ⟨_, rfl, _, rfl, a, C, rfl, xc.o, xc.no _ (by decide +kernel), .inl ⟨ea, fun d hd nd => ?_⟩⟩
      refine ⟨_, rfl, _, rfl, a, C, rfl, xc.o, xc.no _ (by decide +kernel), .inr ⟨d, _, upd_same, (upd_ne nd).trans upd_same, (by show 1 ≤ 900; decide), ?_⟩⟩
      exact q d _ hd nd ((upd_ne nd.symm).trans upd_same) upd_same fun b h1 h2 => (upd_ne h2).trans ((upd_ne h1).trans (upd_ne h2))
theorem rai_NoCell (T : Tx K mg) : Rai P w K mg base "NoCell" (He.ga K "NoCell") ["found"] := by
  refine Rai.of T.x_NoCell T.g_NoCell T.F_NoCell___init__ (fun F => F.binds (ps := ["self", "found"]) fun _ _ _ _ _ _ us hl => match us, hl with | [_, _], _ => rfl) fun F => FnG.of F sc_NoCell___init__ (fun vs H Q E h => ?_) (fun cdv A outer s H vs Q E hr h => ?_) (ps := ["self", "found"])
  · obtain ⟨a, C, ys, rfl, hl, _⟩ := h; simpa using hl
  · obtain ⟨a, C, ys, rfl, hl, xc, ea, q⟩ := h
    match ys, hl with
    | [y], _ =>
      refine ⟨_, pss_one (ps_ost (pv 0) (pv 1)), ?_⟩
      refine ⟨_, rfl, _, rfl, a, C, rfl, xc.o, xc.no _ (by decide +kernel), .inl ⟨ea, fun d hd nd => ?_⟩⟩
      exact q d _ hd nd upd_same ((upd_ne nd).trans upd_same) fun b h1 h2 => (upd_ne h1).trans (upd_ne h2)
theorem rai_NoValue (T : Tx K mg) : Rai P w K mg base "NoValue" (He.ga K "NoValue") ["found"] := by
  refine Rai.of T.x_NoValue T.g_NoValue T.F_NoValue___init__ (fun F => F.binds (ps := ["self", "found"]) fun _ _ _ _ _ _ us hl => match us, hl with | [_, _], _ => rfl) fun F => FnG.of F sc_NoValue___init__ (fun vs H Q E h => ?_) (fun cdv A outer s H vs Q E hr h => ?_) (ps := ["self", "found"])
  · obtain ⟨a, C, ys, rfl, hl, _⟩ := h; simpa using hl
  · obtain ⟨a, C, ys, rfl, hl, xc, ea, q⟩ := h
    match ys, hl with
    | [y], _ =>
      refine ⟨_, pss_one (ps_ost (pv 0) (pv 1)), ?_⟩
      refine ⟨_, rfl, _, rfl, a, C, rfl, xc.o, xc.no _ (by decide +kernel), .inl ⟨ea, fun d hd nd => ?_⟩⟩
      exact q d _ hd nd upd_same ((upd_ne nd).trans upd_same) fun b h1 h2 => (upd_ne h1).trans (upd_ne h2)
theorem rai_NoHands (T : Tx K mg) : Rai P w K mg base "NoHands" (He.ga K "NoHands") ["found"] := by
  refine Rai.of T.x_NoHands T.g_NoHands T.F_NoHands___init__ (fun F => F.binds (ps := ["self", "found"]) fun _ _ _ _ _ _ us hl => match us, hl with | [_, _], _ => rfl) fun F => FnG.of F sc_NoHands___init__ (fun vs H Q E h => ?_) (fun cdv A outer s H vs Q E hr h => ?_) (ps := ["self", "found"])
  · obtain ⟨a, C, ys, rfl, hl, _⟩ := h; simpa using hl
  · obtain ⟨a, C, ys, rfl, hl, xc, ea, q⟩ := h
    match ys, hl with
    | [y], _ =>
      refine ⟨_, pss_one (ps_ost (pv 0) (pv 1)), ?_⟩
      refine ⟨_, rfl, _, rfl, a, C, rfl, xc.o, xc.no _ (by decide +kernel), .inl ⟨ea, fun d hd nd => ?_⟩⟩
      exact q d _ hd nd upd_same ((upd_ne nd).trans upd_same) fun b h1 h2 => (upd_ne h1).trans (upd_ne h2)
end
end Lw
namespace Lw
open PySem PySem.Spec L2 FG
open PyProof.Rows hiding St
def names0 : List PySem.Str := ["_wall", "__name__", "RoomError", "NoNumber", "NoValue", "NoFrame", "Gone", "Ground", "TooMany", "Full", "NoWay", "NoCell", "NoHands", "LETTERS", "LONGEST", "is_number", "is_whole", "is_name", "is_pair", "HAND", "ROOM", "need_ending", "rooms_inside", "steps_in", "steps_from"]
def names1 : List PySem.Str := ["kept", "MOST", "Frames", "MOST_CELLS", "MOST_SIZE", "House", "_law_cell", "_law_box", "_law_take", "_law_names", "_law_world", "_law_row", "_law_standing", "_law_used", "_law_begun", "_law_given", "_law_ended", "_law_picture", "_law_all_rooms", "_law_value", "_law_deed", "_law_hands", "_law_inner", "_law_steps", "_law_kept"]
def names2 : List PySem.Str := ["_law_scene", "_law_chained", "_law_walks", "_law_right"]
abbrev Rw : PySem.W.OpenRow := PySem.W.OpenLaw.row PySem.Challenge.rw_framerooms_k27_kept_and_why
abbrev hk : PySem.W.Hook := hookY 6 faL fnL exF
def ob (s : PySem.W.SharedT) : He.AlD × Bool := obsY 6 faL fnL exF (HandSHeadRun.getT s)
theorem ob_eq (s : PySem.W.SharedT) : ob s = hk.obs s.abs := obsY_eq (HandSHeadRun.getT_eq s)
theorem run (w : World) : HandSHeadRun.RunEq Rw (PySem.W.view Rw.prog [59]) hk ob 9000 (names0 ++ names1 ++ names2) w := by
  intro os
  kernel_rfl

end Lw
namespace Lw
open PySem PySem.Spec L2 FG
open PyProof.Rows hiding St
/-! ### the law's draws: a cell, a box, a take -/
/-- at b a box that has been asked at most n times behind its digits -/
def BoxAt (H : Hp) (b : Addr) (n : Int) : Prop := ∃ x y c : Int, H b = some (.lst [.int x, .int y, .int c]) ∧ 0 ≤ x ∧ 0 ≤ y ∧ y < 2147483629 ∧ 0 ≤ c ∧ c ≤ n
/-- all but b is as it was -/
def But (b : Addr) (H H' : Hp) : Prop := ∀ a, a ≠ b → H' a = H a
def spCell (K : PySem.W.Frag) : Sp := fun vs H Q _ => ∃ (a : Addr) (ns : List Int) (k : Nat), vs = [.ref a, .int k] ∧ SqL K H a (ns.map V.int) ∧ ∀ z : Int, Q (.int z) H
def spBox : Sp := fun vs H Q _ => ∃ z : Int, vs = [.int z] ∧ ∀ b H', H b = none → But b H H' → BoxAt H' b 0 → Q (.ref b) H'
def spTake : Sp := fun vs H Q _ => ∃ (b : Addr) (n m : Int), vs = [.ref b, .int m] ∧ BoxAt H b n ∧ n < 1000000000 ∧ 0 < m ∧ m < 2 ^ 120 ∧
  ∀ H' (d : Int), But b H H' → BoxAt H' b (n + 1) → 0 ≤ d → d < m → Q (.int d) H'
section
variable {P : Program} {w : World} {K : PySem.W.Frag} {mg : Str → Option Value} {base : Heap}
theorem ok_cell (T : Tx K mg) {fd : FuncData} (F : Fun K "_law_cell" "_law_cell" s__law_cell (He.ga K "_law_cell") fd) : FnG P w K mg base 1 (He.ga K "_law_cell") fd ["_law_script", "_law_k"] (spCell K) := by
  refine FnG.of F sc__law_cell (fun vs H Q E h => ?_) (fun cdv A outer s H vs Q E hr h => ?_)
  · obtain ⟨a, ns, k, rfl, _⟩ := h; rfl
  · obtain ⟨a, ns, k, rfl, hS, q⟩ := h
    refine ⟨_, pss_cons (ps_if (pt_cmpR op_lt (pv 1) (pe_callB (klen K) (by rfl) T.z_len PySem.boot_len (pa_cons (pv 0) (pa_nil))) (by first | exact nomark _ | rfl)) (pss_one (ps_ret (pe_ix (kixL K) (pv 0) (pv 1) (fun _ _ => rfl)))) (pss_nil))
      (pss_one (ps_ret (pe_op op_add (pe_op op_mul (pe_int) (pv 1)) (pe_int)))), ?_⟩
    refine ⟨_, rfl, _, rfl, a, _, rfl, .inl hS, _, _, rfl, rfl, _, rfl, ?_⟩
    refine ite2 (fun hlt => ?_) (fun hge => ?_)
    · have hk : k < ns.length := by simpa using hlt
      refine ⟨_, rfl, _, rfl, a, _, _, .int ns[k], rfl, rfl, hS, ?_, q _⟩
      exact atI_nat (by rw [List.getElem?_map, List.getElem?_eq_getElem hk]; rfl)
    · refine ⟨_, rfl, _, _, rfl, rfl, .inl ⟨by decide, by decide⟩, _, _, rfl, rfl, q _⟩
theorem ok_box (T : Tx K mg) {fd : FuncData} (F : Fun K "_law_box" "_law_box" s__law_box (He.ga K "_law_box") fd) : FnG P w K mg base 1 (He.ga K "_law_box") fd ["_law_cell_here"] spBox := by
  refine FnG.of F sc__law_box (fun vs H Q E h => ?_) (fun cdv A outer s H vs Q E hr h => ?_)
  · obtain ⟨z, rfl, _⟩ := h; rfl
  · obtain ⟨z, rfl, q⟩ := h
    refine ⟨_, pss_one (ps_ret (pe_lst (pa_cons (pe_callB (call_max2 rfl) (by rfl) T.z_max (by decide +kernel) (pa_cons (pe_int) (pa_cons (pe_op op_sub (pv 0) (pe_op op_pow (pe_int) (pe_int))) (pa_nil)))) (pa_cons (pe_op op_mod (pv 0) (pe_int)) (pa_cons (pe_int) (pa_nil)))))), ?_⟩
    refine ⟨_, rfl, _, _, rfl, rfl, ⟨by decide, by decide, by decide⟩, _, _, rfl, rfl, _, _, rfl, ?_⟩
    refine ⟨_, rfl, _, _, rfl, rfl, (by show (0 : Int) < 2147483629; decide), (by show 3 ≤ sizeLine; decide), fun b hb => q b _ hb (fun a ha => upd_ne ha) ⟨_, _, _, upd_same, ?_, ?_, ?_, by decide, by decide⟩⟩
    · split <;> omega
    · exact Int.emod_nonneg _ (by decide)
    · exact Int.emod_lt_of_pos _ (by decide)
theorem ok_take (T : Tx K mg) {fd : FuncData} (F : Fun K "_law_take" "_law_take" s__law_take (He.ga K "_law_take") fd) : FnG P w K mg base 1 (He.ga K "_law_take") fd ["_law_box_here", "_law_many"] spTake := by
  refine FnG.of F sc__law_take (fun vs H Q E h => ?_) (fun cdv A outer s H vs Q E hr h => ?_)
  · obtain ⟨b, n, m, rfl, _⟩ := h; rfl
  · obtain ⟨b, n, m, rfl, ⟨x, y, c, hb, hx, hy, hy2, hc, hcn⟩, hn, hm, hm2, q⟩ := h
    refine ⟨_, pss_cons (ps_if (pt_cmpR op_gt (pe_ix (kixL K) (pv 0) (pe_int) (fun _ _ => rfl)) (pe_int) (by first | exact nomark _ | rfl)) (pss_cons (ps_set (i := 2) sc__law_take.nd rfl (by first | exact Or.inl rfl | exact Or.inr rfl) (pe_op op_mod (pe_ix (kixL K) (pv 0) (pe_int) (fun _ _ => rfl)) (pv 1)))
      (pss_cons (ps_asg (pe_op op_fdivW (pe_ix (kixL K) (pv 0) (pe_int) (fun _ _ => rfl)) (pv 1)) (pg_sub (pv 0) (pe_int) set_list))
      (pss_one (ps_ret (pv 2))))) (pss_nil))
      (pss_cons (ps_asg (pe_op op_add (pe_ix (kixL K) (pv 0) (pe_int) (fun _ _ => rfl)) (pe_int)) (pg_sub (pv 0) (pe_int) set_list))
      (pss_cons (ps_set (i := 3) sc__law_take.nd rfl (by first | exact Or.inl rfl | exact Or.inr rfl) (pe_op op_mod (pe_op op_pow (pe_op op_add (pe_op op_add (pe_ix (kixL K) (pv 0) (pe_int) (fun _ _ => rfl)) (pe_op op_mul (pe_int) (pe_ix (kixL K) (pv 0) (pe_int) (fun _ _ => rfl)))) (pe_int)) (pe_int)) (pe_int)))
      (pss_cons (ps_set (i := 3) sc__law_take.nd rfl (by first | exact Or.inl rfl | exact Or.inr rfl) (pe_op op_mod (pe_op op_pow (pe_op op_add (pv 3) (pe_op op_mul (pe_int) (pe_ix (kixL K) (pv 0) (pe_int) (fun _ _ => rfl)))) (pe_int)) (pe_int)))
      (pss_one (ps_ret (pe_op op_mod (pe_op op_fdiv (pv 3) (pe_int)) (pv 1))))))), ?_⟩
    refine ⟨_, rfl, _, _, _, _, rfl, rfl, SqL.of hb, rfl, _, _, rfl, rfl, _, rfl, ?_⟩
    refine ite2 (fun h0 => ?_) (fun h0 => ?_)
    · refine ⟨_, rfl, _, _, _, _, rfl, rfl, SqL.of hb, rfl, _, rfl, _, _, rfl, rfl, hm, ?_⟩
      refine ⟨_, rfl, _, _, _, _, rfl, rfl, SqL.of hb, rfl, _, rfl, _, _, rfl, rfl, wide_div hm (b := 120) (by omega) (by decide) (by decide), ?_⟩
      refine ⟨_, rfl, _, _, _, 0, rfl, rfl, hb, rfl, ?_⟩
      refine ⟨_, rfl, q _ _ (fun a ha => upd_ne ha) ⟨_, _, _, upd_same, Int.ediv_nonneg hx (by omega), hy, hy2, hc, by omega⟩ (Int.emod_nonneg _ (by omega)) (Int.emod_lt_of_pos _ hm)⟩
    · have e : x = 0 := by
        have z : ¬ (0 < x) := by simpa using h0
        omega
      subst e
      -- box[2] = box[2] + 1
      refine ⟨_, rfl, _, _, _, _, rfl, rfl, SqL.of hb, rfl, _, _, rfl, rfl, _, rfl, _, _, _, 2, rfl, rfl, hb, rfl, ?_⟩
      have hb2 : (upd H b (.lst [.int 0, .int y, .int (c + 1)])) b = some (.lst [.int 0, .int y, .int (c + 1)]) := upd_same
      refine ⟨_, rfl, _, _, _, _, rfl, rfl, SqL.of hb2, rfl, _, rfl, _, _, _, _, rfl, rfl, SqL.of hb2, rfl, _, _, rfl, rfl, .inl ⟨by decide, by decide⟩, _, _, rfl, rfl, _, _, rfl, rfl, _, _, rfl, rfl, ⟨by decide, by decide, ?_⟩, _, _, rfl, rfl, (by show (0 : Int) < 2147483647; decide), ?_⟩
      · show (y + 15485863 * (c + 1) + 17).natAbs < 2 ^ 64
        omega
      obtain ⟨u, h1⟩ : ∃ u, u = (y + 15485863 * (c + 1) + 17) ^ Int.toNat 5 % 2147483647 := ⟨_, rfl⟩
      have u0 : 0 ≤ u := h1 ▸ Int.emod_nonneg _ (by decide)
      have u1 : u < 2147483647 := h1 ▸ Int.emod_lt_of_pos _ (by decide)
      refine ⟨_, rfl, _, rfl, _, _, _, _, rfl, rfl, SqL.of hb2, rfl, _, _, rfl, rfl, .inl ⟨by decide, by decide⟩, _, _, rfl, rfl, _, _, rfl, rfl, ⟨by decide, by decide, ?_⟩, _, _, rfl, rfl, (by show (0 : Int) < 2147483629; decide), ?_⟩
      · show ((y + 15485863 * (c + 1) + 17) ^ Int.toNat 5 % 2147483647 + 7919 * (c + 1)).natAbs < 2 ^ 64
        rw [← h1]
        omega
      refine ⟨_, rfl, _, _, rfl, rfl, ⟨by decide, by decide⟩, _, rfl, _, _, rfl, rfl, hm, ?_⟩
      exact q _ _ (fun a ha => upd_ne ha) ⟨_, _, _, hb2, Int.le_refl 0, hy, hy2, by omega, by omega⟩ (Int.emod_nonneg _ (by omega)) (Int.emod_lt_of_pos _ hm)
end

end Lw
namespace Lw
open PySem PySem.Spec L2 FG
open PyProof.Rows hiding St
/-! ### frames as plain lists: hs the frames straight around, ts those that were ended to take them -/
def enc : Option Int → V
  | none => .non
  | some i => .int i
def nint (n : Nat) : V := .int (n : Int)
/-- the numbers that stand, rising -/
def stand (ts : List (Option Int)) : List Nat := (List.range ts.length).filter fun i => decide (ts[i]? = some none)
/-- the row from the ground -/
def rowW (hs : List (Option Int)) (i : Nat) : List Nat := match hs[i]? with
  | some (some j) => if j.toNat < i then rowW hs j.toNat ++ [i] else [i]
  | _ => [i]
termination_by i
/-- all that end with f, falling -/
def fin (hs ts : List (Option Int)) (f : Nat) : List Nat := (stand ts).reverse.filter fun k => decide (f ∈ rowW hs k)
/-- taken by f -/
def taken (ts : List (Option Int)) (ks : List Nat) (f : Nat) : List (Option Int) := ks.foldl (fun t k => t.set k (some (f : Int))) ts
structure Wf (hs ts : List (Option Int)) : Prop where
  len : ts.length = hs.length
  pos : 0 < hs.length
  small : hs.length ≤ 101
  root : hs[0]? = some none
  up : ∀ i, 0 < i → i < hs.length → ∃ j : Nat, hs[i]? = some (some (j : Int)) ∧ j < i
theorem wf0 : Wf [none] [none] := ⟨rfl, by decide, by decide, rfl, fun i h1 h2 => by simp at h2; omega⟩
theorem taken_len (ks : List Nat) (f : Nat) : ∀ ts, (taken ts ks f).length = ts.length := by
  induction ks with
  | nil => intro ts; rfl
  | cons k ks ih => intro ts; exact (ih _).trans (List.length_set)
theorem Wf.taken {hs ts : List (Option Int)} (w : Wf hs ts) (ks : List Nat) (f : Nat) : Wf hs (Lw.taken ts ks f) := ⟨(taken_len ks f ts).trans w.len, w.pos, w.small, w.root, w.up⟩
theorem Wf.begun {hs ts : List (Option Int)} (w : Wf hs ts) {f : Nat} (hf : f < hs.length) (h100 : hs.length ≤ 100) : Wf (hs ++ [some (f : Int)]) (ts ++ [none]) := by
  refine ⟨by simp [w.len], by simp, by simp; omega, ?_, fun i h0 h1 => ?_⟩
  · rw [List.getElem?_append_left w.pos]; exact w.root
  · by_cases h : i < hs.length
    · rw [List.getElem?_append_left h]; exact w.up i h0 h
    · have e : i = hs.length := by simp at h1; omega
      subst e
      exact ⟨f, by simp, hf⟩
theorem row_root {hs ts : List (Option Int)} (w : Wf hs ts) : rowW hs 0 = [0] := by rw [rowW, w.root]
theorem row_up {hs : List (Option Int)} {i j : Nat} (h : hs[i]? = some (some (j : Int))) (hj : j < i) : rowW hs i = rowW hs j ++ [i] := by
  rw [rowW, h]
  show (if (j : Int).toNat < i then rowW hs (j : Int).toNat ++ [i] else [i]) = _
  rw [Int.toNat_natCast, if_pos hj]
theorem row_len {hs ts : List (Option Int)} (w : Wf hs ts) : ∀ n i, i < n → i < hs.length → (rowW hs i).length ≤ i + 1 := by
  intro n
  induction n with
  | zero => intro i h; omega
  | succ n ih =>
    intro i h hi
    by_cases h0 : i = 0
    · subst h0; rw [row_root w]; simp
    · obtain ⟨j, e, hj⟩ := w.up i (by omega) hi
      rw [row_up e hj, List.length_append]
      have := ih j (by omega) (by omega)
      simp; omega
theorem row_lt {hs ts : List (Option Int)} (w : Wf hs ts) : ∀ n i, i < n → i < hs.length → ∀ k ∈ rowW hs i, k ≤ i := by
  intro n
  induction n with
  | zero => intro i h; omega
  | succ n ih =>
    intro i h hi k hk
    by_cases h0 : i = 0
    · subst h0; rw [row_root w] at hk; simp at hk; omega
    · obtain ⟨j, e, hj⟩ := w.up i (by omega) hi
      rw [row_up e hj] at hk
      rcases List.mem_append.mp hk with hk | hk
      · have := ih j (by omega) (by omega) k hk; omega
      · simp at hk; omega
theorem mem_stand {ts : List (Option Int)} {i : Nat} : i ∈ stand ts ↔ ts[i]? = some none := by
  unfold stand
  rw [List.mem_filter, List.mem_range]
  constructor
  · rintro ⟨_, h⟩; exact of_decide_eq_true h
  · intro h
    exact ⟨(List.getElem?_eq_some_iff.mp h).1, decide_eq_true h⟩
theorem stand_len (ts : List (Option Int)) : (stand ts).length ≤ ts.length := by
  unfold stand
  exact Nat.le_trans (List.length_filter_le _ _) (by simp)
theorem fin_stand {hs ts : List (Option Int)} {f k : Nat} (h : k ∈ fin hs ts f) : ts[k]? = some none := by
  unfold fin at h
  rw [List.mem_filter, List.mem_reverse] at h
  exact mem_stand.mp h.1
theorem fin_len (hs ts : List (Option Int)) (f : Nat) : (fin hs ts f).length ≤ ts.length := by
  unfold fin
  refine Nat.le_trans (List.length_filter_le _ _) ?_
  rw [List.length_reverse]; exact stand_len ts
theorem filter_more {α : Type} (p : α → Bool) {xs : List α} {i : Nat} {x : α} (h : xs[i]? = some x) : (xs.take (i + 1)).filter p = (xs.take i).filter p ++ (if p x = true then [x] else []) := by
  obtain ⟨hi, e⟩ := List.getElem?_eq_some_iff.mp h
  rw [List.take_succ_eq_append_getElem hi, List.filter_append, e]
  congr 1
  by_cases hp : p x = true
  · simp [hp]
  · simp [hp]
theorem sel_yes {α : Type} (f : α → V) (p : α → Bool) {xs : List α} {i : Nat} {x : α} (h : xs[i]? = some x) (hp : p x = true) : ((xs.take (i + 1)).filter p).map f = ((xs.take i).filter p).map f ++ [f x] := by
  rw [filter_more p h, hp]; simp
theorem sel_no {α : Type} (f : α → V) (p : α → Bool) {xs : List α} {i : Nat} {x : α} (h : xs[i]? = some x) (hp : p x = false) : ((xs.take (i + 1)).filter p).map f = ((xs.take i).filter p).map f := by
  rw [filter_more p h, hp]; simp
theorem foldl_more {α β : Type} (g : β → α → β) {xs : List α} {i : Nat} {x : α} {b : β} (h : xs[i]? = some x) : (xs.take (i + 1)).foldl g b = g ((xs.take i).foldl g b) x := by
  obtain ⟨hi, e⟩ := List.getElem?_eq_some_iff.mp h
  rw [List.take_succ_eq_append_getElem hi, List.foldl_append, e]; rfl
theorem inV_nint (f : Nat) (xs : List Nat) : inV (.int (f : Int)) (xs.map nint) = decide (f ∈ xs) := by
  unfold inV
  rw [Bool.eq_iff_iff, List.any_eq_true, decide_eq_true_eq]
  constructor
  · rintro ⟨y, hy, e⟩
    obtain ⟨n, hn, rfl⟩ := List.mem_map.mp hy
    have e2 : ((n : Int) == (f : Int)) = true := e
    have : n = f := by have := eq_of_beq e2; omega
    subst this; exact hn
  · intro h
    exact ⟨nint f, List.mem_map.mpr ⟨f, h, rfl⟩, by show ((f : Int) == (f : Int)) = true; simp⟩
theorem flat_nint (xs : List Nat) : (xs.map nint).all flatV = true := by
  rw [List.all_eq_true]; rintro y hy; obtain ⟨n, _, rfl⟩ := List.mem_map.mp hy; rfl
theorem dp_enc (K : PySem.W.Frag) (H : Hp) : ∀ xs : List (Option Int), DpAll K H (xs.map enc) (xs.map fun o => match o with | none => PyData.none | some i => PyData.int i)
  | [] => .nil
  | none :: xs => .cons .non (dp_enc K H xs)
  | some i :: xs => .cons (.int i) (dp_enc K H xs)
theorem dp_nint (K : PySem.W.Frag) (H : Hp) : ∀ xs : List Nat, DpAll K H (xs.map nint) (xs.map fun n : Nat => PyData.int (n : Int))
  | [] => .nil
  | n :: xs => .cons (.int (n : Int)) (dp_nint K H xs)
/-- all but the objects of S is as it was -/
def Kp (S : List Addr) (H H' : Hp) : Prop := ∀ b o, H b = some o → b ∉ S → H' b = some o
theorem Kp.refl {S : List Addr} {H : Hp} : Kp S H H := fun _ _ e _ => e
theorem Kp.trans {S : List Addr} {H H1 H2 : Hp} (a : Kp S H H1) (b : Kp S H1 H2) : Kp S H H2 := fun c o e h => b c o (a c o e h) h
theorem Kp.at {S : List Addr} {H H' : Hp} (k : Kp S H H') {b : Addr} {o : HO} (e : H b = some o) (h : b ∉ S) : H' b = some o := k b o e h
theorem Kp.free {H H' : Hp} (k : Kp [] H H') {b : Addr} (e : H' b = none) : H b = none := by
  cases q : H b with
  | none => rfl
  | some o => rw [k b o q (by simp)] at e; cases e

end Lw
namespace Lw
open PySem PySem.Spec L2 FG
open PyProof.Rows hiding St
/-! what is kept -/
theorem But.kp {b : Addr} {H H' : Hp} (k : But b H H') : Kp [b] H H' := fun a o e h => (k a (by simpa using h)).trans e
theorem Kp.mono {S S' : List Addr} {H H' : Hp} (k : Kp S H H') (h : ∀ a ∈ S, a ∈ S') : Kp S' H H' := fun b o e n => k b o e fun z => n (h b z)
theorem BoxAt.kp {S : List Addr} {H H' : Hp} {b : Addr} {n : Int} (x : BoxAt H b n) (k : Kp S H H') (h : b ∉ S) : BoxAt H' b n := by
  obtain ⟨x, y, c, e, r⟩ := x
  exact ⟨x, y, c, k _ _ e h, r⟩
theorem BoxAt.more {H : Hp} {b : Addr} {n m : Int} (x : BoxAt H b n) (h : n ≤ m) : BoxAt H b m := by
  obtain ⟨x, y, c, e, a1, a2, a3, a4, a5⟩ := x
  exact ⟨x, y, c, e, a1, a2, a3, a4, by omega⟩
theorem Kp.new {S : List Addr} {H H1 : Hp} {a : Addr} {o : HO} (k : Kp S H H1) (h : H1 a = none) : Kp S H (L2.upd H1 a o) := fun b ob e n => (upd_ne (ne_of_none (k b ob e n) h)).trans (k b ob e n)
theorem BoxAt.new {H : Hp} {b a : Addr} {n : Int} {o : HO} (x : BoxAt H b n) (h : H a = none) : BoxAt (L2.upd H a o) b n := x.kp (S := []) (Kp.refl.new h) (by simp)
/-- the script: locked, or an object of the module -/
def Scr (K : PySem.W.Frag) (H : Hp) (a : Addr) (ns : List Int) : Prop := (∃ o, H a = some (.frz o (.lst (ns.map V.int)))) ∨ ∀ H', SqL K H' a (ns.map V.int)
theorem Scr.sq {K : PySem.W.Frag} {H : Hp} {a : Addr} {ns : List Int} (x : Scr K H a ns) : SqL K H a (ns.map V.int) := by
  rcases x with ⟨o, z⟩ | z
  · exact .inl (.inr ⟨o, z⟩)
  · exact z H
theorem Scr.of {K : PySem.W.Frag} {H : Hp} {a : Addr} {ns : List Int} (hO : Only H) (h : SqL K H a (ns.map V.int)) : Scr K H a ns := by
  rcases h with (z | ⟨o, z⟩) | z
  · rcases hO a with y | ⟨o, xs, y⟩
    · rw [y] at z; cases z
    · rw [y] at z; cases z
  · exact .inl ⟨o, z⟩
  · exact .inr fun H' => .inr z
theorem Scr.kp {K : PySem.W.Frag} {S : List Addr} {H H' : Hp} {a : Addr} {ns : List Int} (x : Scr K H a ns) (k : Kp S H H') (hS : ∀ b ∈ S, ∀ o u, H b ≠ some (.frz o u)) : Scr K H' a ns := by
  rcases x with ⟨o, z⟩ | z
  · exact .inl ⟨o, k a _ z fun c => hS a c _ _ z⟩
  · exact .inr z
theorem Scr.kp0 {K : PySem.W.Frag} {H H' : Hp} {a : Addr} {ns : List Int} (x : Scr K H a ns) (k : Kp [] H H') : Scr K H' a ns := x.kp k fun _ z => by cases z
theorem BoxAt.nf {H : Hp} {b : Addr} {n : Int} (x : BoxAt H b n) : ∀ c ∈ [b], ∀ o u, H c ≠ some (.frz o u) := by
  obtain ⟨_, _, _, e, _⟩ := x
  intro c hc o u h; rw [List.mem_singleton] at hc; subst hc; rw [e] at h; cases h
theorem BoxAt.ne {H : Hp} {b c : Addr} {n : Int} (x : BoxAt H b n) (hc : H c = none) : c ≠ b := by
  obtain ⟨_, _, _, e, _⟩ := x; exact (ne_of_none e hc).symm

end Lw
namespace Lw
open PySem PySem.Spec L2 FG
open PyProof.Rows hiding St
/-! ### things of any kind; whole numbers, names, pairs -/
theorem iteB {b : Bool} {A B : Prop} (h1 : b = true → A) (h2 : b = false → B) : if b = true then A else B := by
  cases b with
  | true => exact iteT (h1 rfl)
  | false => exact iteF (h2 rfl)
inductive Sh (H : Hp) : V → Prop
  | non : Sh H .non
  | bl (b : Bool) : Sh H (.bl b)
  | int (z : Int) : Sh H (.int z)
  | str (z : Str) (h : z.length ≤ sizeLine) : Sh H (.str z)
  | lst {a : Addr} {xs : List V} (e : H a = some (.lst xs)) : Sh H (.ref a)
  | tup {a : Addr} {xs : List V} (e : H a = some (.tup xs)) : Sh H (.ref a)
  | dK {a : Addr} {kvs : List (Key × V)} (e : H a = some (.dK kvs)) : Sh H (.ref a)
def isIntV : V → Bool
  | .int _ | .bl _ => true
  | _ => false
def isBlV : V → Bool
  | .bl _ => true
  | _ => false
def numV : V → Bool
  | .int _ => true
  | _ => false
def strV : V → Option Str
  | .str z => some z
  | _ => none
def tupV (H : Hp) : V → Option (List V)
  | .ref a => match H a with
    | some (.tup xs) => some xs
    | _ => none
  | _ => none
theorem Sh.kp {H H' : Hp} {v : V} (s : Sh H v) (k : Kp [] H H') : Sh H' v := by
  cases s with
  | non => exact .non
  | bl b => exact .bl b
  | int z => exact .int z
  | str z h => exact .str z h
  | lst e => exact .lst (k _ _ e (by simp))
  | tup e => exact .tup (k _ _ e (by simp))
  | dK e => exact .dK (k _ _ e (by simp))
theorem tupV_some {H : Hp} {v : V} {xs : List V} (h : tupV H v = some xs) : ∃ a, v = .ref a ∧ H a = some (.tup xs) := by
  unfold tupV at h
  split at h
  · rename_i a
    split at h
    · rename_i ys e
      cases h
      exact ⟨a, rfl, e⟩
    · cases h
  · cases h
theorem tupV_ref {H : Hp} {a : Addr} {xs : List V} (h : H a = some (.tup xs)) : tupV H (.ref a) = some xs := by
  simp only [tupV, h]
theorem Sh.tupKp {H H' : Hp} {v : V} (s : Sh H v) (k : Kp [] H H') : tupV H' v = tupV H v := by
  cases s with
  | non => rfl
  | bl b => rfl
  | int z => rfl
  | str z h => rfl
  | lst e => simp only [tupV, e, k _ _ e (by simp)]
  | tup e => simp only [tupV, e, k _ _ e (by simp)]
  | dK e => simp only [tupV, e, k _ _ e (by simp)]
theorem Sh.ty {H : Hp} {v : V} (K : PySem.W.Frag) (s : Sh H v) : ∃ t : String, TyX K H v (.type t) ∧ kitB t "int" = some (isIntV v) ∧ kitB t "bool" = some (isBlV v) ∧ kitB t "str" = some (strV v).isSome ∧ kitB t "tuple" = some (tupV H v).isSome := by
  cases s with
  | non => exact ⟨_, .base .non, by decide +kernel, by decide +kernel, by decide +kernel, by show _ = some false; decide +kernel⟩
  | bl b => exact ⟨_, .base (.bl b), by show _ = some true; decide +kernel, by show _ = some true; decide +kernel, by show _ = some false; decide +kernel, by show _ = some false; decide +kernel⟩
  | int z => exact ⟨_, .base (.int z), by show _ = some true; decide +kernel, by show _ = some false; decide +kernel, by show _ = some false; decide +kernel, by show _ = some false; decide +kernel⟩
  | str z h => exact ⟨_, .base (.str z), by show _ = some false; decide +kernel, by show _ = some false; decide +kernel, by show _ = some true; decide +kernel, by show _ = some false; decide +kernel⟩
  | lst e => exact ⟨_, .base (.lst e), by show _ = some false; decide +kernel, by show _ = some false; decide +kernel, by show _ = some false; decide +kernel, by simp only [tupV, e]; decide +kernel⟩
  | tup e => exact ⟨_, .base (.tup e), by show _ = some false; decide +kernel, by show _ = some false; decide +kernel, by show _ = some false; decide +kernel, by simp only [tupV, e]; show _ = some true; decide +kernel⟩
  | dK e => exact ⟨_, .base (.dK e), by show _ = some false; decide +kernel, by show _ = some false; decide +kernel, by show _ = some false; decide +kernel, by simp only [tupV, e]; decide +kernel⟩
theorem isInt_num (v : V) (h : isIntV v = true) : (!isBlV v) = numV v := by
  cases v <;> first | rfl | cases h
theorem num_int (v : V) (h : isIntV v = false) : numV v = false := by
  cases v <;> first | rfl | cases h
theorem num_some {v : V} (h : numV v = true) : ∃ z, v = .int z := by
  cases v with
  | int z => exact ⟨z, rfl⟩
  | _ => cases h
theorem strV_some {v : V} {z : Str} (h : strV v = some z) : v = .str z := by
  cases v with
  | str y => cases h; rfl
  | _ => cases h
/-- low to high -/
def wholeV (v : V) (a b : Int) : Bool := match v with
  | .int z => decide (a ≤ z ∧ z ≤ b)
  | _ => false
theorem whole_num {v : V} {a b : Int} (h : numV v = false) : wholeV v a b = false := by
  cases v with
  | int z => cases h
  | _ => rfl
def letter (c : Nat) : Bool := decide (97 ≤ c ∧ c ≤ 122)
def nameS (z : Str) : Bool := decide (1 ≤ z.length ∧ z.length ≤ 6) && z.cps.toList.all letter
def nameV (v : V) : Bool := match strV v with
  | some z => nameS z
  | none => false
def posV : V → Bool
  | .int z => decide (0 ≤ z)
  | _ => false
def pairL (xs : List V) : Bool := decide (xs.length = 2) && xs.all posV
def pairV (H : Hp) (v : V) : Bool := match tupV H v with
  | some xs => pairL xs
  | none => false
/-- a thing, and in a tuple such things -/
structure Th (H : Hp) (v : V) : Prop where
  sh : Sh H v
  el : ∀ xs, tupV H v = some xs → xs.length ≤ 100 ∧ ∀ x ∈ xs, Sh H x
theorem Th.kp {H H' : Hp} {v : V} (s : Th H v) (k : Kp [] H H') : Th H' v := ⟨s.sh.kp k, fun xs h => by
  rw [s.sh.tupKp k] at h
  exact ⟨(s.el xs h).1, fun x hx => ((s.el xs h).2 x hx).kp k⟩⟩
theorem Th.pairKp {H H' : Hp} {v : V} (s : Th H v) (k : Kp [] H H') : pairV H' v = pairV H v := by
  unfold pairV; rw [s.sh.tupKp k]
def spNumG : Sp := fun vs H Q _ => ∃ v, vs = [v] ∧ Sh H v ∧ Q (.bl (numV v)) H
def spWholeG : Sp := fun vs H Q _ => ∃ v a b, vs = [v, .int a, .int b] ∧ Sh H v ∧ Q (.bl (wholeV v a b)) H
def spName : Sp := fun vs H Q _ => ∃ v, vs = [v] ∧ Sh H v ∧ ∀ H', Kp [] H H' → Q (.bl (nameV v)) H'
def spPair : Sp := fun vs H Q _ => ∃ v, vs = [v] ∧ Th H v ∧ ∀ H', Kp [] H H' → Q (.bl (pairV H v)) H'
theorem mem_letters (c : Nat) : decide (c ∈ ("abcdefghijklmnopqrstuvwxyz" : Str).cps.toList) = letter c := by
  have e : ("abcdefghijklmnopqrstuvwxyz" : Str).cps.toList = (List.range 26).map (· + 97) := by decide +kernel
  unfold letter
  rw [e, decide_eq_decide, List.mem_map]
  constructor
  · rintro ⟨x, hx, rfl⟩
    have := List.mem_range.mp hx
    omega
  · rintro ⟨h1, h2⟩
    exact ⟨c - 97, List.mem_range.mpr (by omega), by omega⟩
theorem all_take {α : Type} (p : α → Bool) (xs : List α) : ((xs.map p).all id) = xs.all p := by
  induction xs with
  | nil => rfl
  | cons x xs ih => simp [ih]
theorem map_take {α β : Type} (f : α → β) {xs : List α} {i : Nat} {x : α} (h : xs[i]? = some x) : (xs.take (i + 1)).map f = (xs.take i).map f ++ [f x] := by
  obtain ⟨hi, e⟩ := List.getElem?_eq_some_iff.mp h
  rw [List.take_succ_eq_append_getElem hi, List.map_append, e]; rfl
section
variable {P : Program} {w : World} {K : PySem.W.Frag} {mg : Str → Option Value} {base : Heap}
theorem ok_number (T : Tx K mg) {fd : FuncData} (F : Fun K "is_number" "is_number" s_is_number (He.ga K "is_number") fd) : FnG P w K mg base 1 (He.ga K "is_number") fd ["thing"] spNumG := by
  refine FnG.of F sc_is_number (fun vs H Q E h => ?_) (fun cdv A outer s H vs Q E hr h => ?_)
  · obtain ⟨v, rfl, _⟩ := h; rfl
  · obtain ⟨v, rfl, sh, q⟩ := h
    obtain ⟨t, ht, hi, hb, _, _⟩ := sh.ty K
    refine ⟨_, pss_one (ps_ret (pe_and (pe_callB (kisi K) (by rfl) T.z_isinstance (by decide +kernel) (pa_cons (pv 0) (pa_cons (pe_bltn (v := .ty "int") (by rfl) T.z_int (by decide +kernel) rfl) (pa_nil)))) (pe_one (pe_not (pe_callB (kisi K) (by rfl) T.z_isinstance (by decide +kernel) (pa_cons (pv 0) (pa_cons (pe_bltn (v := .ty "bool") (by rfl) T.z_bool (by decide +kernel) rfl) (pa_nil)))))))), ?_⟩
    refine ⟨_, rfl, _, _, _, _, _, rfl, .ty _, ht, kit_ty hi, _, rfl, ?_⟩
    refine iteB (fun h1 => ?_) (fun h1 => ?_)
    · refine ⟨_, rfl, _, _, _, _, _, rfl, .ty _, ht, kit_ty hb, _, rfl, ?_⟩
      rw [← isInt_num v h1] at q; exact q
    · rw [num_int v h1] at q; exact q
theorem ok_whole (T : Tx K mg) {fd : FuncData} (F : Fun K "is_whole" "is_whole" s_is_whole (He.ga K "is_whole") fd) (c_is_number : Cal P w K mg base 1 "is_number" spNumG) : FnG P w K mg base 2 (He.ga K "is_whole") fd ["thing", "low", "high"] spWholeG := by
  refine FnG.of F sc_is_whole (fun vs H Q E h => ?_) (fun cdv A outer s H vs Q E hr h => ?_)
  · obtain ⟨v, a, b, rfl, _⟩ := h; rfl
  · obtain ⟨v, a, b, rfl, sh, q⟩ := h
    refine ⟨_, pss_one (ps_ret (pe_and (gc c_is_number (hr.mono (by decide)) takes0 (pa_cons (pv 0) (pa_nil))) (pe_one (pe_chain op_le op_le (pv 1) (pv 0) (pv 2))))), ?_⟩
    refine ⟨_, rfl, v, rfl, sh, _, rfl, ?_⟩
    refine iteB (fun h1 => ?_) (fun h1 => ?_)
    · obtain ⟨z, rfl⟩ := num_some h1
      refine ⟨_, rfl, _, rfl, _, _, rfl, rfl, _, rfl, ?_⟩
      by_cases h1 : a ≤ z
      · rw [decide_eq_true h1]
        refine iteT ⟨_, rfl, _, _, rfl, rfl, ?_⟩
        have e : wholeV (.int z) a b = decide (z ≤ b) := by simp [wholeV, h1]
        rw [e] at q; exact q
      · rw [decide_eq_false h1]
        refine iteF ?_
        have e : wholeV (.int z) a b = false := by simp [wholeV, h1]
        rw [e] at q; exact q
    · rw [whole_num h1] at q; exact q
theorem ok_pair (T : Tx K mg) {fd : FuncData} (F : Fun K "is_pair" "is_pair" s_is_pair (He.ga K "is_pair") fd) (c_is_number : Cal P w K mg base 1 "is_number" spNumG) : FnG P w K mg base 2 (He.ga K "is_pair") fd ["thing"] spPair := by
  refine FnG.of F sc_is_pair (fun vs H Q E h => ?_) (fun cdv A outer s H vs Q E hr h => ?_)
  · obtain ⟨v, rfl, _⟩ := h; rfl
  · obtain ⟨v, rfl, ⟨sh, el⟩, q⟩ := h
    obtain ⟨t, ht, _, _, _, hs⟩ := sh.ty K
    refine ⟨_, pss_cons (ps_if (PW.pt (pw_or (pt_not (pt_val (pe_callB (kisi K) (by rfl) T.z_isinstance (by decide +kernel) (pa_cons (pv 0) (pa_cons (pe_bltn (v := .ty "tuple") (by rfl) T.z_tuple (by decide +kernel) rfl) (pa_nil)))))) (pw_or1 (pt_cmpR op_ne (pe_callB (klen K) (by rfl) T.z_len PySem.boot_len (pa_cons (pv 0) (pa_nil))) (pe_int) (by first | exact nomark _ | rfl))))) (pss_one (ps_ret (pe_bl))) (pss_nil))
      (pss_one (ps_ret (pe_callB (kall K) (by rfl) T.z_all (by decide +kernel) (pa_cons (pe_lc (own := [("one", 1)]) (g := gName 1) (tt := tYes) rfl sc_is_pair.nd (kiT K (pv 0)) (blkOk_by (own := [("one", 1)]) (N := ["thing", "one"]) (sc := defScope s_is_pair) (by decide +kernel)) (fun _ _ _ _ _ => pg_name (i := 1) sc_is_pair.nd rfl (by first | exact Or.inl rfl | exact Or.inr rfl)) (fun _ _ _ _ _ => by exact pts_nil) (fun _ _ _ _ _ => by exact pe_and (gc c_is_number (hr.mono (by decide)) takes0 (pa_cons (pv 1) (pa_nil))) (pe_one (pe_cmpR op_ge (pv 1) (pe_int) (by first | exact nomark _ | rfl))))) (pa_nil))))), ?_⟩
    cases hv : tupV H v with
    | none =>
      rw [hv] at hs
      have e : pairV H v = false := by unfold pairV; rw [hv]
      rw [e] at q
      exact ⟨_, rfl, _, _, _, _, false, rfl, .ty _, ht, kit_ty hs, false, rfl, iteT (iteT (q H Kp.refl))⟩
    | some xs =>
      rw [hv] at hs
      obtain ⟨a, rfl, ea⟩ := tupV_some hv
      obtain ⟨hl, hx⟩ := el xs hv
      have e : pairV H (.ref a) = pairL xs := by unfold pairV; rw [hv]
      rw [e] at q
      refine ⟨_, rfl, _, _, _, _, true, rfl, .ty _, ht, kit_ty hs, true, rfl, iteF ⟨_, rfl, a, xs, rfl, .inr (SqT.of ea), rfl, _, rfl, ?_⟩⟩
      by_cases h2 : xs.length = 2
      · have z : decide (V.int xs.length = V.int 2) = true := decide_eq_true (by rw [h2]; rfl)
        rw [z]
        refine iteF ⟨_, rfl, a, rfl, ⟨xs, SqT.of ea⟩, fun D hD => ?_⟩
        have neD : ∀ b o, H b = some o → b ≠ D := fun b o eb => ne_of_none eb hD
        refine lc_tup (K := K) (a := a) (xs := xs) (fun i H2 => Kp [] H H2 ∧ H2 D = some (.lst (((xs.take i).map posV).map V.bl))) ⟨fun b o eb _ => (upd_ne (neD b o eb)).trans eb, upd_same⟩ (fun i H2 _ ⟨k2, _⟩ => SqT.of (k2 _ _ ea (by simp))) ?_ ?_
        · rintro i x H2 hx2 ⟨k2, eD⟩
          have hm : x ∈ xs := List.mem_of_getElem? hx2
          have fin : ∀ b, b = posV x → ∃ acc, H2 D = some (.lst acc) ∧ acc.length < sizeLine ∧ Kp [] H (upd H2 D (.lst (acc ++ [V.bl b]))) ∧ upd H2 D (.lst (acc ++ [V.bl b])) D = some (.lst (((xs.take (i + 1)).map posV).map V.bl)) := by
            rintro b rfl
            refine ⟨_, eD, ?_, fun b o eb _ => (upd_ne (neD b o eb)).trans (k2 b o eb (by simp)), ?_⟩
            · have h9 : (List.take i xs).length ≤ (xs).length := by rw [List.length_take]; omega
              rw [List.length_map, List.length_map]
              exact Nat.lt_of_le_of_lt (m := 2) (by omega) (by decide)
            · rw [upd_same, map_take posV hx2, List.map_append]; rfl
          refine ⟨rfl, _, rfl, x, rfl, (hx x hm).kp k2, _, rfl, ?_⟩
          refine iteB (fun h1 => ?_) (fun h1 => ?_)
          · obtain ⟨z, rfl⟩ := num_some h1
            exact ⟨_, rfl, _, _, rfl, rfl, fin _ rfl⟩
          · exact fin _ (by cases x with | int z => cases h1 | _ => rfl)
        · rintro H2 ⟨k2, eD⟩
          rw [List.take_length] at eD
          refine ⟨D, xs.map posV, rfl, SqL.of eD, ?_⟩
          rw [all_take]
          have e2 : pairL xs = xs.all posV := by unfold pairL; rw [decide_eq_true h2, Bool.true_and]
          rw [← e2]; exact q H2 k2
      · have z : decide (V.int xs.length = V.int 2) = false := decide_eq_false (fun c => h2 (by injection c with c; omega))
        rw [z]
        have e2 : pairL xs = false := by unfold pairL; rw [decide_eq_false h2, Bool.false_and]
        rw [e2] at q
        exact iteT (q H Kp.refl)
end

end Lw
namespace Lw
open PySem PySem.Spec L2 FG
open PyProof.Rows hiding St
section
variable {P : Program} {w : World} {K : PySem.W.Frag} {mg : Str → Option Value} {base : Heap}
theorem ok_name (T : Tx K mg) {fd : FuncData} (F : Fun K "is_name" "is_name" s_is_name (He.ga K "is_name") fd) : FnG P w K mg base 1 (He.ga K "is_name") fd ["thing"] spName := by
  refine FnG.of F sc_is_name (fun vs H Q E h => ?_) (fun cdv A outer s H vs Q E hr h => ?_)
  · obtain ⟨v, rfl, _⟩ := h; rfl
  · obtain ⟨v, rfl, sh, q⟩ := h
    obtain ⟨t, ht, _, _, hs, _⟩ := sh.ty K
    obtain ⟨tL, hg_LETTERS⟩ := T.i_LETTERS
    obtain ⟨tM, hg_LONGEST⟩ := T.i_LONGEST
    refine ⟨_, pss_cons (ps_if (PW.pt (pw_or (pt_not (pt_val (pe_callB (kisi K) (by rfl) T.z_isinstance (by decide +kernel) (pa_cons (pv 0) (pa_cons (pe_bltn (v := .ty "str") (by rfl) T.z_str (by decide +kernel) rfl) (pa_nil)))))) (pw_or1 (pt_not (pt_chain op_le op_le (pe_int) (pe_callB call_len_str (by rfl) T.z_len PySem.boot_len (pa_cons (pv 0) (pa_nil))) (pe_glob (v := .int 6) rfl hg_LONGEST ⟨_, rfl⟩)))))) (pss_one (ps_ret (pe_bl))) (pss_nil))
      (pss_one (ps_ret (pe_callB (kall K) (by rfl) T.z_all (by decide +kernel) (pa_cons (pe_lc (own := [("sign", 1)]) (g := gName 1) (tt := tYes) rfl sc_is_name.nd (pi_str (pv 0)) (blkOk_by (own := [("sign", 1)]) (N := ["thing", "sign"]) (sc := defScope s_is_name) (by decide +kernel)) (fun _ _ _ _ _ => pg_name (i := 1) sc_is_name.nd rfl (by first | exact Or.inl rfl | exact Or.inr rfl)) (fun _ _ _ _ _ => by exact pts_nil) (fun _ _ _ _ _ => by exact pe_cmpR op_in_sign (pv 1) (pe_glob (v := .str "abcdefghijklmnopqrstuvwxyz") rfl hg_LETTERS ⟨_, rfl⟩) (by first | exact nomark _ | rfl))) (pa_nil))))), ?_⟩
    cases hv : strV v with
    | none =>
      rw [hv] at hs
      have e : nameV v = false := by unfold nameV; rw [hv]
      rw [e] at q
      exact ⟨_, rfl, _, _, _, _, false, rfl, .ty _, ht, kit_ty hs, false, rfl, iteT (iteT (q H Kp.refl))⟩
    | some z =>
      rw [hv] at hs
      obtain rfl := strV_some hv
      have hz : z.length ≤ sizeLine := by cases sh; assumption
      have e : nameV (.str z) = nameS z := by unfold nameV; rw [hv]
      rw [e] at q
      refine ⟨_, rfl, _, _, _, _, true, rfl, .ty _, ht, kit_ty hs, true, rfl, iteF ⟨_, rfl, z, rfl, hz, _, _, rfl, rfl, _, rfl, ?_⟩⟩
      by_cases h1 : (1 : Int) ≤ z.length
      · rw [decide_eq_true h1]
        refine iteT ⟨_, _, rfl, rfl, _, rfl, ?_⟩
        by_cases h2 : (z.length : Int) ≤ 6
        · rw [decide_eq_true h2]
          refine iteF ⟨_, rfl, z, rfl, fun D hD => ?_⟩
          have neD : ∀ b o, H b = some o → b ≠ D := fun b o eb => ne_of_none eb hD
          refine lc_it walk_str (fun i H2 => Kp [] H H2 ∧ H2 D = some (.lst (((z.cps.toList.take i).map letter).map V.bl))) ⟨fun b o eb _ => (upd_ne (neD b o eb)).trans eb, upd_same⟩ (fun _ _ _ _ => trivial) ?_ ?_
          · rintro i x H3 H2 hi ⟨k2, eD⟩ ⟨rfl, c, hc, rfl⟩
            refine ⟨rfl, _, rfl, c, _, rfl, rfl, _, eD, ?_, ?_⟩
            · have h9 : (List.take i z.cps.toList).length ≤ (z.cps.toList).length := by rw [List.length_take]; omega
              rw [List.length_map, List.length_map]
              have h3 : z.cps.toList.length = z.length := by simp [Str.length]
              have : z.length ≤ 6 := by omega
              refine Nat.lt_of_le_of_lt (m := 6) (by omega) (by decide)
            · refine ⟨fun b o eb _ => (upd_ne (neD b o eb)).trans (k2 b o eb (by simp)), ?_⟩
              have hc2 : z.cps.toList[i]? = some c := by rw [Array.getElem?_toList]; exact hc
              rw [upd_same, mem_letters, map_take letter hc2, List.map_append]; rfl
          · rintro H2 ⟨k2, eD⟩
            refine ⟨D, z.cps.toList.map letter, rfl, ?_, ?_⟩
            · have h3 : z.cps.toList.take z.cps.size = z.cps.toList := by rw [← Array.length_toList, List.take_length]
              rw [h3] at eD
              exact SqL.of eD
            · rw [all_take]
              have e2 : nameS z = z.cps.toList.all letter := by
                unfold nameS
                rw [decide_eq_true (by omega), Bool.true_and]
              rw [← e2]; exact q H2 k2
        · rw [decide_eq_false h2]
          have e2 : nameS z = false := by unfold nameS; rw [decide_eq_false (by omega), Bool.false_and]
          rw [e2] at q
          exact iteT (q H Kp.refl)
      · rw [decide_eq_false h1]
        have e2 : nameS z = false := by unfold nameS; rw [decide_eq_false (by omega), Bool.false_and]
        rw [e2] at q
        exact iteF ⟨_, rfl, iteT (q H Kp.refl)⟩
end

end Lw
namespace Lw
open PySem PySem.Spec L2 FG
open PyProof.Rows hiding St
/-! ### Frames, where nothing is refused -/
def frMeths : List Str := ["need_begun", "need_standing", "need_more", "begin", "finish", "clear", "stands", "inside", "row", "within", "ended_by", "standing", "begun", "make", "need_room", "need_cell", "is_value", "get", "put", "size", "cells", "rooms", "used", "left", "limit", "greatest", "picture", "twin"]
structure FrF (fs : List (Str × V)) (h t : Addr) : Prop where
  hh : fs.lookup ("holders" : Str) = some (.ref h)
  tt : fs.lookup ("takers" : Str) = some (.ref t)
  no : ∀ m ∈ frMeths, fs.lookup m = none
/-- at p an instance of the class at C, which is under Frames: its lists stand at h and t -/
structure FrAt (C : Addr) (H : Hp) (p h t : Addr) (hs ts : List (Option Int)) : Prop where
  ob : ∃ dx fs, H p = some (.ins C dx fs) ∧ FrF fs h t
  lh : H h = some (.lst (hs.map enc))
  lt : H t = some (.lst (ts.map enc))
  ne : h ≠ t
  wf : Wf hs ts
theorem FrAt.kp {S : List Addr} {C : Addr} {H H' : Hp} {p h t : Addr} {hs ts : List (Option Int)} (f : FrAt C H p h t hs ts) (k : Kp S H H') (h1 : p ∉ S) (h2 : h ∉ S) (h3 : t ∉ S) : FrAt C H' p h t hs ts := by
  obtain ⟨dx, fs, e, ff⟩ := f.ob
  exact ⟨⟨dx, fs, k _ _ e h1, ff⟩, k _ _ f.lh h2, k _ _ f.lt h3, f.ne, f.wf⟩
theorem FrAt.kp0 {C : Addr} {H H' : Hp} {p h t : Addr} {hs ts : List (Option Int)} (f : FrAt C H p h t hs ts) (k : Kp [] H H') : FrAt C H' p h t hs ts := f.kp k (by simp) (by simp) (by simp)
theorem FrAt.ph {C : Addr} {H : Hp} {p h t : Addr} {hs ts : List (Option Int)} (f : FrAt C H p h t hs ts) : p ≠ h ∧ p ≠ t := by
  obtain ⟨dx, fs, e, ff⟩ := f.ob
  exact ⟨ne_of e f.lh (by intro q; cases q), ne_of e f.lt (by intro q; cases q)⟩
abbrev CF (K : PySem.W.Frag) : Addr := He.ga K "Frames"
/-- where a valid number is handed in -/
def spBeg (C : Addr) : Sp := fun vs H Q _ => ∃ p h t hs ts, ∃ n : Nat, vs = [.ref p, nint n] ∧ FrAt C H p h t hs ts ∧ n < hs.length ∧ Q .non H
def spStd (C : Addr) : Sp := fun vs H Q _ => ∃ p h t hs ts, ∃ n : Nat, vs = [.ref p, nint n] ∧ FrAt C H p h t hs ts ∧ ts[n]? = some none ∧ Q .non H
def spMore (C : Addr) : Sp := fun vs H Q _ => ∃ p h t hs ts, vs = [.ref p] ∧ FrAt C H p h t hs ts ∧ hs.length ≤ 100 ∧ Q .non H
def spBegin (C : Addr) : Sp := fun vs H Q _ => ∃ p h t hs ts, ∃ n : Nat, vs = [.ref p, nint n] ∧ FrAt C H p h t hs ts ∧ ts[n]? = some none ∧ hs.length ≤ 100 ∧
  ∀ H', Kp [h, t] H H' → FrAt C H' p h t (hs ++ [some (n : Int)]) (ts ++ [none]) → Q (nint hs.length) H'
def spFin (C : Addr) : Sp := fun vs H Q _ => ∃ p h t hs ts, ∃ n : Nat, vs = [.ref p, nint n] ∧ FrAt C H p h t hs ts ∧ ts[n]? = some none ∧ 0 < n ∧
  ∀ l H', H l = none → Kp [t] H H' → FrAt C H' p h t hs (taken ts (fin hs ts n) n) → H' l = some (.lst ((fin hs ts n).map nint)) → Q (.ref l) H'
def spClear : Sp := fun vs H Q _ => ∃ p f, vs = [p, f] ∧ Q .non H
def spStands (C : Addr) : Sp := fun vs H Q _ => ∃ p h t hs ts, ∃ z : Int, vs = [.ref p, .int z] ∧ FrAt C H p h t hs ts ∧ Q (.bl (decide (0 ≤ z ∧ ts[z.toNat]? = some none))) H
def spRow (C : Addr) : Sp := fun vs H Q _ => ∃ p h t hs ts, ∃ n : Nat, vs = [.ref p, nint n] ∧ FrAt C H p h t hs ts ∧ n < hs.length ∧
  ∀ l H', H l = none → Kp [] H H' → H' l = some (.lst ((rowW hs n).map nint)) → Q (.ref l) H'
def spBy (C : Addr) : Sp := fun vs H Q _ => ∃ p h t hs ts, ∃ (n : Nat) (o : Option Int), vs = [.ref p, nint n] ∧ FrAt C H p h t hs ts ∧ ts[n]? = some o ∧ Q (enc o) H
def spStanding (C : Addr) : Sp := fun vs H Q _ => ∃ p h t hs ts, vs = [.ref p] ∧ FrAt C H p h t hs ts ∧ ∀ l H', H l = none → Kp [] H H' → H' l = some (.lst ((stand ts).map nint)) → Q (.ref l) H'
def spBegun (C : Addr) : Sp := fun vs H Q _ => ∃ p h t hs ts, vs = [.ref p] ∧ FrAt C H p h t hs ts ∧ Q (.int ((hs.length : Int) - 1)) H
/-- of any int: is_number; between: is_whole -/
def spNum : Sp := fun vs H Q _ => ∃ z : Int, vs = [.int z] ∧ Q (.bl true) H
def spWhole : Sp := fun vs H Q _ => ∃ z a b : Int, vs = [.int z, .int a, .int b] ∧ Q (.bl (decide (a ≤ z ∧ z ≤ b))) H
def spFInit (C : Addr) : Sp := fun vs H Q _ => ∃ p dx, vs = [.ref p] ∧ H p = some (.ins C dx []) ∧ ∀ h t H', H h = none → H t = none → h ≠ p → t ≠ p → Kp [p] H H' → FrAt C H' p h t [none] [none] → H' p = some (.ins C dx (putF "takers" (.ref t) (putF "holders" (.ref h) []))) → Q .non H'

theorem frF0 (h t : Addr) : FrF (putF "takers" (.ref t) (putF "holders" (.ref h) [])) h t := by
  have n1 : ¬ (("holders" : Str) = "takers") := by decide +kernel
  refine ⟨by rw [lookup_putF, if_neg n1, lookup_putF, if_pos rfl], by rw [lookup_putF, if_pos rfl], fun m hm => ?_⟩
  have z : (frMeths.all fun m => decide (¬ m = ("takers" : Str) ∧ ¬ m = ("holders" : Str))) = true := by decide +kernel
  have z2 := of_decide_eq_true (List.all_eq_true.mp z m hm)
  rw [lookup_putF, if_neg z2.1, lookup_putF, if_neg z2.2]; rfl
theorem get_enc {xs : List (Option Int)} {n : Nat} {o : Option Int} (h : xs[n]? = some o) : atI (xs.map enc) (n : Int) = some (enc o) := atI_nat (by rw [List.getElem?_map, h]; rfl)
theorem rt_of {Q : VK} {a b : V} {H : Hp} (e : a = b) (q : Q b H) : Q a H := e ▸ q
theorem Cal.weaker {P : Program} {w : World} {K : PySem.W.Frag} {mg : Str → Option Value} {base : Heap} {k : Nat} {x : Str} {sp sp' : Sp} (c : Cal P w K mg base k x sp) (h : ∀ vs H Q E, sp' vs H Q E → sp vs H Q E) : Cal P w K mg base k x sp' :=
  let ⟨f, fd, ps, F, r⟩ := c.ex; ⟨f, fd, ps, F.weaker h, r⟩
theorem whole_of {P : Program} {w : World} {K : PySem.W.Frag} {mg : Str → Option Value} {base : Heap} {k : Nat} (c : Cal P w K mg base k "is_whole" spWholeG) : Cal P w K mg base k "is_whole" spWhole :=
  Cal.weaker c fun vs H Q E ⟨z, a, b, e, q⟩ => ⟨.int z, a, b, e, .int z, q⟩
section
variable {P : Program} {w : World} {K : PySem.W.Frag} {mg : Str → Option Value} {base : Heap}
theorem ok_finit (T : Tx K mg) {C : Addr} (cC : Cls K C) (nH : NoAttr K C "holders") (nT : NoAttr K C "takers") {fd : FuncData} {f : Addr} (F : Fun K "__init__" "Frames.__init__" s_Frames___init__ f fd) : FnG P w K mg base 1 f fd ["self"] (spFInit C) := by
  refine FnG.of F sc_Frames___init__ (fun vs H Q E h => ?_) (fun cdv A outer s H vs Q E hr h => ?_)
  · obtain ⟨p, dx, rfl, _⟩ := h; rfl
  · obtain ⟨p, dx, rfl, hp, q⟩ := h
    refine ⟨_, pss_cons (ksFld K (pv 0) (pe_lst (pa_cons (pe_non) (pa_nil))))
      (pss_one (ksFld K (pv 0) (pe_lst (pa_cons (pe_non) (pa_nil))))), ?_⟩
    refine ⟨by decide, fun h hh => ?_⟩
    have n1 : p ≠ h := ne_of_none hp hh
    refine ⟨_, rfl, p, C, dx, [], rfl, (by rw [upd_ne n1]; exact hp), cC, nH, (by show 0 < 1000; decide), by decide, fun t ht => ?_⟩
    have n2 : t ≠ p := fun z => by rw [z, upd_same] at ht; cases ht
    have n3 : t ≠ h := fun z => by rw [z, upd_ne n1.symm, upd_same] at ht; cases ht
    have ht0 : H t = none := by rw [upd_ne n2, upd_ne n3] at ht; exact ht
    refine ⟨_, rfl, p, C, dx, _, rfl, (by rw [upd_ne n2.symm, upd_same]), cC, nT, (by show 1 < 1000; decide), ?_⟩
    refine q h t _ hh ht0 n1.symm n2 (fun b o e hb => ?_) ⟨⟨dx, _, upd_same, frF0 h t⟩, ?_, ?_, n3.symm, wf0⟩ upd_same
    · have hb2 : b ≠ p := by simpa using hb
      rw [upd_ne hb2, upd_ne (ne_of_none e ht0), upd_ne hb2, upd_ne (ne_of_none e hh)]; exact e
    · rw [upd_ne n1.symm, upd_ne n3.symm, upd_ne n1.symm, upd_same]; rfl
    · rw [upd_ne n2, upd_same]; rfl
theorem ok_begun_ (T : Tx K mg) {C : Addr} (cC : Cls K C) (nH : NoAttr K C "holders") (nT : NoAttr K C "takers") {fd : FuncData} {f : Addr} (F : Fun K "need_begun" "Frames.need_begun" s_House_need_begun f fd) (c_is_whole : Cal P w K mg base 2 "is_whole" spWhole) (r_NoFrame : Rai P w K mg base "NoFrame" (He.ga K "NoFrame") ["found"]) : FnG P w K mg base 3 f fd ["self", "frame"] (spBeg C) := by
  refine FnG.of F sc_House_need_begun (fun vs H Q E h => ?_) (fun cdv A outer s H vs Q E hr h => ?_)
  · obtain ⟨p, h, t, hs, ts, n, rfl, _⟩ := h; rfl
  · obtain ⟨p, h, t, hs, ts, n, rfl, ⟨⟨dx, fs, e, ff⟩, lh, lt, ne, wf⟩, hn, q⟩ := h
    refine ⟨_, pss_one (ps_if (pt_not (pt_val (gc c_is_whole (hr.mono (by decide)) tkE (pa_cons (pv 1) (pa_cons (pe_int) (pa_cons (pe_op op_sub (pe_callB (klen K) (by rfl) T.z_len PySem.boot_len (pa_cons (kfld K (pv 0)) (pa_nil))) (pe_int)) (pa_nil))))))) (pss_one (ps_rais r_NoFrame (hr.mono (by decide)) tkE (pa_cons (pv 1) (pa_nil)))) (pss_nil)), ?_⟩
    refine ⟨_, rfl, _, rfl, p, C, dx, fs, _, rfl, e, cC, nH, ff.hh, h, _, rfl, .inl (SqL.of lh), _, _, rfl, rfl, n, 0, _, rfl, _, rfl, ?_⟩
    have z : decide ((0 : Int) ≤ n ∧ (n : Int) ≤ ((hs.map enc).length : Int) - 1) = true := by
      rw [List.length_map]; exact decide_eq_true ⟨by omega, by omega⟩
    rw [z]
    exact iteF q
theorem ok_std (T : Tx K mg) {C : Addr} (cC : Cls K C) (nH : NoAttr K C "holders") (nT : NoAttr K C "takers") {fd : FuncData} {f : Addr} (F : Fun K "need_standing" "Frames.need_standing" s_House_need_standing f fd) (m_need_begun : Met P w K mg base 3 C "need_begun" (spBeg C)) (r_Gone : Rai P w K mg base "Gone" (He.ga K "Gone") ["found", "by"]) : FnG P w K mg base 4 f fd ["self", "frame"] (spStd C) := by
  refine FnG.of F sc_House_need_standing (fun vs H Q E h => ?_) (fun cdv A outer s H vs Q E hr h => ?_)
  · obtain ⟨p, h, t, hs, ts, n, rfl, _⟩ := h; rfl
  · obtain ⟨p, h, t, hs, ts, n, rfl, fr, hn, q⟩ := h
    obtain ⟨⟨dx, fs, e, ff⟩, lh, lt, ne, wf⟩ := id fr
    have hl := (List.getElem?_eq_some_iff.mp hn).1
    refine ⟨_, pss_cons (ps_expr (gm m_need_begun (hr.mono (by decide)) tkE (pv 0) (pa_cons (pv 1) (pa_nil))))
      (pss_one (ps_if (pt_cmpR op_notN (pe_ix (kixL K) (kfld K (pv 0)) (pv 1) (fun _ _ => rfl)) (pe_non) (by first | exact nomark _ | rfl)) (pss_one (ps_rais r_Gone (hr.mono (by decide)) tkE (pa_cons (pv 1) (pa_cons (pe_ix (kixL K) (kfld K (pv 0)) (pv 1) (fun _ _ => rfl)) (pa_nil))))) (pss_nil))), ?_⟩
    refine ⟨_, rfl, p, dx, fs, rfl, e, ff.no _ (by decide +kernel), _, rfl, p, h, t, hs, ts, n, rfl, fr, wf.len ▸ hl, ?_⟩
    refine ⟨_, rfl, p, C, dx, fs, _, rfl, e, cC, nT, ff.tt, _, rfl, t, _, _, _, rfl, rfl, SqL.of lt, get_enc hn, rfl, _, rfl, iteF q⟩
theorem ok_more (T : Tx K mg) {C : Addr} (cC : Cls K C) (nH : NoAttr K C "holders") (nT : NoAttr K C "takers") {fd : FuncData} {f : Addr} (F : Fun K "need_more" "Frames.need_more" s_House_need_more f fd) (r_TooMany : Rai P w K mg base "TooMany" (He.ga K "TooMany") ["many"]) : FnG P w K mg base 3 f fd ["self"] (spMore C) := by
  obtain ⟨tM, hg_MOST⟩ := T.i_MOST
  refine FnG.of F sc_House_need_more (fun vs H Q E h => ?_) (fun cdv A outer s H vs Q E hr h => ?_)
  · obtain ⟨p, h, t, hs, ts, rfl, _⟩ := h; rfl
  · obtain ⟨p, h, t, hs, ts, rfl, ⟨⟨dx, fs, e, ff⟩, lh, lt, ne, wf⟩, hn, q⟩ := h
    refine ⟨_, pss_one (ps_if (pt_cmpR op_gt (pe_callB (klen K) (by rfl) T.z_len PySem.boot_len (pa_cons (kfld K (pv 0)) (pa_nil))) (pe_glob (v := .int 100) rfl hg_MOST ⟨_, rfl⟩) (by first | exact nomark _ | rfl)) (pss_one (ps_rais r_TooMany (hr.mono (by decide)) tkE (pa_cons (pe_callB (klen K) (by rfl) T.z_len PySem.boot_len (pa_cons (kfld K (pv 0)) (pa_nil))) (pa_nil)))) (pss_nil)), ?_⟩
    refine ⟨_, rfl, p, C, dx, fs, _, rfl, e, cC, nH, ff.hh, h, _, rfl, .inl (SqL.of lh), _, 100, rfl, rfl, _, rfl, ?_⟩
    have z : decide ((100 : Int) < ((hs.map enc).length : Int)) = false := by
      rw [List.length_map]; exact decide_eq_false (by omega)
    show if decide ((100 : Int) < ((hs.map enc).length : Int)) = true then _ else _
    rw [z]
    exact iteF q
theorem ok_begin (T : Tx K mg) {C : Addr} (cC : Cls K C) (nH : NoAttr K C "holders") (nT : NoAttr K C "takers") {fd : FuncData} {f : Addr} (F : Fun K "begin" "Frames.begin" s_House_begin f fd) (m_need_standing : Met P w K mg base 4 C "need_standing" (spStd C)) (m_need_more : Met P w K mg base 3 C "need_more" (spMore C)) :
    FnG P w K mg base 5 f fd ["self", "frame"] (spBegin C) := by
  refine FnG.of F sc_House_begin (fun vs H Q E h => ?_) (fun cdv A outer s H vs Q E hr h => ?_)
  · obtain ⟨p, h, t, hs, ts, n, rfl, _⟩ := h; rfl
  · obtain ⟨p, h, t, hs, ts, n, rfl, fr, hn, h100, q⟩ := h
    obtain ⟨⟨dx, fs, e, ff⟩, lh, lt, ne, wf⟩ := id fr
    have hl := (List.getElem?_eq_some_iff.mp hn).1
    have wl := wf.len
    obtain ⟨ph, pt⟩ := fr.ph
    refine ⟨_, pss_cons (ps_expr (gm m_need_standing (hr.mono (by decide)) takes0 (pv 0) (pa_cons (pv 1) (pa_nil))))
      (pss_cons (ps_expr (gm0 m_need_more (hr.mono (by decide)) takes0 (pv 0)))
      (pss_cons (ps_expr (kbm K PySem.F.plainAttrs_list PySem.F.slot_list_append PySem.F.type_list_append mt_append (kfld K (pv 0)) (pa_cons (pv 1) (pa_nil))))
      (pss_cons (ps_expr (kbm K PySem.F.plainAttrs_list PySem.F.slot_list_append PySem.F.type_list_append mt_append (kfld K (pv 0)) (pa_cons (pe_non) (pa_nil))))
      (pss_one (ps_ret (pe_op op_sub (pe_callB (klen K) (by rfl) T.z_len PySem.boot_len (pa_cons (kfld K (pv 0)) (pa_nil))) (pe_int))))))), ?_⟩
    refine ⟨_, rfl, p, dx, fs, rfl, e, ff.no _ (by decide +kernel), _, rfl, p, h, t, hs, ts, n, rfl, fr, hn, ?_⟩
    refine ⟨_, rfl, p, dx, fs, rfl, e, ff.no _ (by decide +kernel), p, h, t, hs, ts, rfl, fr, h100, ?_⟩
    refine ⟨_, rfl, p, C, dx, fs, _, rfl, e, cC, nH, ff.hh, .inl ⟨rfl, _, SqL.of lh⟩, _, rfl, h, _, _, rfl, rfl, lh, (by rw [List.length_map]; exact small1000 (by omega)), ?_⟩
    have e1 : upd H h (.lst (hs.map enc ++ [nint n])) p = some (.ins C dx fs) := (upd_ne ph).trans e
    have l1 : upd H h (.lst (hs.map enc ++ [nint n])) t = some (.lst (ts.map enc)) := (upd_ne ne.symm).trans lt
    refine ⟨_, rfl, p, C, dx, fs, _, rfl, e1, cC, nT, ff.tt, .inl ⟨rfl, _, SqL.of l1⟩, t, _, _, rfl, rfl, l1, (by rw [List.length_map]; exact small1000 (by omega)), ?_⟩
    have e2 : upd (upd H h (.lst (hs.map enc ++ [nint n]))) t (.lst (ts.map enc ++ [V.non])) p = some (.ins C dx fs) := (upd_ne pt).trans e1
    have l2 : upd (upd H h (.lst (hs.map enc ++ [nint n]))) t (.lst (ts.map enc ++ [V.non])) h = some (.lst (hs.map enc ++ [nint n])) := (upd_ne ne).trans upd_same
    refine ⟨_, rfl, p, C, dx, fs, _, rfl, e2, cC, nH, ff.hh, h, _, rfl, .inl (SqL.of l2), _, _, rfl, rfl, ?_⟩
    have z : (((hs.map enc ++ [nint n]).length : Nat) : Int) - 1 = (hs.length : Int) := by simp
    refine rt_of (b := nint hs.length) (congrArg V.int z) ?_
    refine q _ (fun b o eb hb => ?_) ⟨⟨dx, fs, e2, ff⟩, ?_, ?_, ne, wf.begun (by omega) h100⟩
    · simp at hb
      rw [upd_ne hb.2, upd_ne hb.1]; exact eb
    · rw [l2, List.map_append]; rfl
    · rw [upd_same, List.map_append]; rfl
theorem ok_standing (T : Tx K mg) {C : Addr} (cC : Cls K C) (nH : NoAttr K C "holders") (nT : NoAttr K C "takers") {fd : FuncData} {f : Addr} (F : Fun K "standing" "Frames.standing" s_House_standing f fd) : FnG P w K mg base 1 f fd ["self"] (spStanding C) := by
  refine FnG.of F sc_House_standing (fun vs H Q E h => ?_) (fun cdv A outer s H vs Q E hr h => ?_)
  · obtain ⟨p, h, t, hs, ts, rfl, _⟩ := h; rfl
  · obtain ⟨p, h, t, hs, ts, rfl, ⟨⟨dx, fs, e, ff⟩, lh, lt, ne, wf⟩, q⟩ := h
    have wl := wf.len
    have ws := wf.small
    refine ⟨_, pss_one (ps_ret (pe_lc (own := [("one", 1)]) (g := gName 1) rfl sc_House_standing.nd (pi_range1 rfl T.z_range (pa_cons (pe_callB (klen K) (by rfl) T.z_len PySem.boot_len (pa_cons (kfld K (pv 0)) (pa_nil))) (pa_nil))) (blkOk_by (own := [("one", 1)]) (N := ["self", "one"]) (sc := defScope s_House_standing) (by decide +kernel)) (fun _ _ _ _ _ => pg_name (i := 1) sc_House_standing.nd rfl (by first | exact Or.inl rfl | exact Or.inr rfl)) (fun _ _ _ _ _ => by exact pts_one (pt_cmpR op_isN (pe_ix (kixL K) (kfld K (pv 0)) (pv 1) (fun _ _ => rfl)) (pe_non) (by first | exact nomark _ | rfl))) (fun _ _ _ _ _ => by exact pv 1))), ?_⟩
    refine ⟨_, rfl, p, C, dx, fs, _, rfl, e, cC, nT, ff.tt, t, _, rfl, .inl (SqL.of lt), _, rfl, (by rw [List.length_map]; omega), (by rw [List.length_map]; omega), fun D hD => ?_⟩
    refine lc_range (lo := 0) (n := _) (fun i H' => Kp [] H H' ∧ H' D = some (.lst (((List.range ts.length).take i |>.filter fun j => decide (ts[j]? = some none)).map nint)))
      ⟨fun b o eb _ => (upd_ne (ne_of_none eb hD)).trans eb, upd_same⟩ ?_ ?_
    · rintro i H' hi ⟨kp, hD'⟩
      have hi2 : i < ts.length := by simpa using hi
      refine ⟨rfl, _, rfl, p, C, dx, fs, _, rfl, kp _ _ e (by simp), cC, nT, ff.tt, _, rfl, t, _, _, enc ts[i], rfl, rfl, SqL.of (kp _ _ lt (by simp)), ?_, rfl, _, rfl, ?_⟩
      · rw [Int.zero_add]; exact get_enc (List.getElem?_eq_getElem hi2)
      · have hr2 : (List.range ts.length)[i]? = some i := by simp [hi2]
        have hx : decide (ts[i]? = some none) = decide (enc ts[i] = V.non) := by
          rw [List.getElem?_eq_getElem hi2]
          cases ts[i] <;> simp [enc]
        by_cases hc : enc ts[i] = V.non
        · rw [decide_eq_true hc] at hx ⊢
          refine iteT ⟨_, rfl, _, hD', ?_, fun b o eb hb => ?_, ?_⟩
          · rw [List.length_map]
            exact small1000 (Nat.le_trans (List.length_filter_le _ _) (by simp; omega))
          · rw [upd_ne (ne_of_none eb hD)]; exact kp b o eb hb
          · rw [upd_same, sel_yes nint (fun j => decide (ts[j]? = some none)) hr2 hx, Int.zero_add]; rfl
        · rw [decide_eq_false hc] at hx ⊢
          refine iteF ⟨kp, ?_⟩
          rw [hD', sel_no nint (fun j => decide (ts[j]? = some none)) hr2 hx]
    · rintro H' ⟨kp, hD'⟩
      refine q D H' hD kp ?_
      rw [hD']
      unfold stand
      rw [List.take_of_length_le (by simp)]
theorem ok_row (T : Tx K mg) {C : Addr} (cC : Cls K C) (nH : NoAttr K C "holders") (nT : NoAttr K C "takers") {fd : FuncData} {f : Addr} (F : Fun K "row" "Frames.row" s_House_row f fd) (m_need_begun : Met P w K mg base 3 C "need_begun" (spBeg C)) : FnG P w K mg base 4 f fd ["self", "frame"] (spRow C) := by
  refine FnG.of F sc_House_row (fun vs H Q E h => ?_) (fun cdv A outer s H vs Q E hr h => ?_)
  · obtain ⟨p, h, t, hs, ts, n, rfl, _⟩ := h; rfl
  · obtain ⟨p, h, t, hs, ts, n, rfl, fr, hn, q⟩ := h
    obtain ⟨⟨dx, fs, e, ff⟩, lh, lt, ne, wf⟩ := id fr
    have ws := wf.small
    refine ⟨_, pss_cons (ps_expr (gm m_need_begun (hr.mono (by decide)) takes0 (pv 0) (pa_cons (pv 1) (pa_nil))))
      (pss_cons (ps_set (i := 2) sc_House_row.nd rfl (by first | exact Or.inl rfl | exact Or.inr rfl) (pe_lst (pa_nil)))
      (pss_cons (ps_set (i := 3) sc_House_row.nd rfl (by first | exact Or.inl rfl | exact Or.inr rfl) (pv 1))
      (pss_cons (ps_while (passes_of rfl) (pt_cmpR op_notN (pv 3) (pe_non) (by first | exact nomark _ | rfl)) (pss_cons (ps_expr (kbm K PySem.F.plainAttrs_list PySem.F.slot_list_insert PySem.F.type_list_insert mt_insert (pv 2) (pa_cons (pe_int) (pa_cons (pv 3) (pa_nil)))))
      (pss_one (ps_set (i := 3) sc_House_row.nd rfl (by first | exact Or.inl rfl | exact Or.inr rfl) (pe_ix (kixL K) (kfld K (pv 0)) (pv 3) (fun _ _ => rfl))))))
      (pss_one (ps_ret (pv 2)))))), ?_⟩
    refine ⟨_, rfl, p, dx, fs, rfl, e, ff.no _ (by decide +kernel), _, rfl, p, h, t, hs, ts, n, rfl, fr, hn, by decide, fun l hl => ⟨_, rfl, ?_⟩⟩
    refine ⟨fun m σ H' => ∃ v tail, σ = [some (.ref p), some (nint n), some (.ref l), some v] ∧ Kp [] H H' ∧ H' l = some (.lst (tail.map nint)) ∧
      ((v = .non ∧ rowW hs n = tail) ∨ ∃ a : Nat, v = nint a ∧ a < hs.length ∧ m = a + 1 ∧ rowW hs n = rowW hs a ++ tail),
      ⟨n + 1, nint n, [], rfl, fun b o eb _ => (upd_ne (ne_of_none eb hl)).trans eb, upd_same, .inr ⟨n, rfl, hn, rfl, by simp⟩⟩, ?_⟩
    rintro m σ H' ⟨v, tail, rfl, kp, hL, hv⟩
    refine ⟨_, rfl, rfl, _, rfl, ?_⟩
    rcases hv with ⟨rfl, er⟩ | ⟨a, rfl, ha, rfl, er⟩
    · refine iteF ⟨_, rfl, q l H' hl kp ?_⟩
      rw [hL, er]
    · refine iteT ⟨fun σ' H'' => ∃ m', m' < a + 1 ∧ _, fun σ' H'' z => z, ?_⟩
      have hlen := row_len wf (n + 1) n (by omega) hn
      have hlt : tail.length ≤ 200 := by
        rw [er, List.length_append] at hlen; omega
      have hne : ∀ b o, H b = some o → b ≠ l := fun b o eb => ne_of_none eb hl
      refine ⟨_, rfl, .inl ⟨rfl, _, SqL.of hL⟩, _, rfl, l, _, 0, _, rfl, rfl, hL, (by rw [List.length_map]; exact small1000 (by omega)), by decide, by decide, ?_⟩
      have e1 : upd H' l (.lst ((tail.map nint).take (0 : Int).toNat ++ [nint a] ++ (tail.map nint).drop (0 : Int).toNat)) p = some (.ins C dx fs) := (upd_ne (hne _ _ e)).trans (kp _ _ e (by simp))
      have l1 : upd H' l (.lst ((tail.map nint).take (0 : Int).toNat ++ [nint a] ++ (tail.map nint).drop (0 : Int).toNat)) h = some (.lst (hs.map enc)) := (upd_ne (hne _ _ lh)).trans (kp _ _ lh (by simp))
      refine ⟨_, rfl, p, C, dx, fs, _, rfl, e1, cC, nH, ff.hh, _, rfl, h, _, _, enc hs[a], rfl, rfl, SqL.of l1, get_enc (List.getElem?_eq_getElem ha), ?_⟩
      by_cases h0 : a = 0
      · subst h0
        have eh : hs[0] = none := by have := wf.root; rw [List.getElem?_eq_getElem wf.pos] at this; exact Option.some.inj this
        refine ⟨0, by omega, _, 0 :: tail, rfl, fun b o eb hb => (upd_ne (hne _ _ eb)).trans (kp b o eb hb), upd_same, .inl ⟨by rw [eh]; rfl, ?_⟩⟩
        rw [er, row_root wf]; rfl
      · obtain ⟨j, ej, hj⟩ := wf.up a (by omega) ha
        have eh : hs[a] = some (j : Int) := by rw [List.getElem?_eq_getElem ha] at ej; exact Option.some.inj ej
        refine ⟨j + 1, by omega, _, a :: tail, rfl, fun b o eb hb => (upd_ne (hne _ _ eb)).trans (kp b o eb hb), upd_same, .inr ⟨j, by rw [eh]; rfl, by omega, rfl, ?_⟩⟩
        rw [er, row_up ej hj, List.append_assoc]; rfl
end

end Lw
namespace Lw
open PySem PySem.Spec L2 FG
open PyProof.Rows hiding St
/-! ### a house as plain data -/
structure Rm where
  (f o : Nat) (cells : List V) (c w : Addr)
def Rm.key (r : Rm) : List L2.Key := [.inl (r.f : Int), .inl (r.o : Int)]
def szs (l : List Rm) : Nat := (l.map fun r => r.cells.length).sum
structure HSt where
  (p h t gd fd sd hd : Addr) (hs ts : List (Option Int)) (rs : List Rm) (gs : List (Nat × Addr)) (most top : Nat)
def HSt.up (s : HSt) (r : Rm) : Bool := decide (s.ts[r.f]? = some none)
def HSt.giv (s : HSt) (f : Nat) : List Rm := s.rs.filter fun r => decide (r.f = f)
def HSt.here (s : HSt) : List Rm := s.rs.filter s.up
def HSt.used (s : HSt) : Nat := szs s.here
def HSt.fill (s : HSt) (f : Nat) : Nat := szs (s.giv f)
def HSt.gdL (s : HSt) : List (L2.Key × V) := s.gs.map fun x => (.inl (x.1 : Int), .ref x.2)
def HSt.fdL (s : HSt) : List (L2.Key × V) := s.gs.map fun x => (.inl (x.1 : Int), .int (s.fill x.1 : Int))
def HSt.sdL (s : HSt) : List (List L2.Key × V) := s.rs.map fun r => (r.key, .int (r.cells.length : Int))
def hdL (l : List Rm) : List (List L2.Key × V) := l.map fun r => (r.key, .ref r.c)
def HSt.foot (s : HSt) : List Addr := [s.p, s.h, s.t, s.gd, s.fd, s.sd, s.hd] ++ s.gs.map (·.2) ++ s.here.map (·.c)
/-- a cell's value: None, a number, a way that was given -/
def VOk (H : Hp) (rs : List Rm) (v : V) : Prop := v = .non ∨ (∃ z, v = .int z) ∨ ∃ r ∈ rs, ∃ q, v = .ref q ∧ H q = some (.tup [.int (r.f : Int), .int (r.o : Int)])
structure HoF (fs : List (Str × V)) (s : HSt) : Prop where
  most : fs.lookup ("most" : Str) = some (.int s.most)
  top : fs.lookup ("top" : Str) = some (.int s.top)
  gd : fs.lookup ("given" : Str) = some (.ref s.gd)
  fd : fs.lookup ("filled" : Str) = some (.ref s.fd)
  sd : fs.lookup ("sizes" : Str) = some (.ref s.sd)
  hd : fs.lookup ("held" : Str) = some (.ref s.hd)
  len : fs.length ≤ 20
structure HPl (s : HSt) : Prop where
  gn : (s.gs.map (·.1)).Nodup
  gm : ∀ r ∈ s.rs, ∃ a, (r.f, a) ∈ s.gs
  gle : s.gs.length ≤ s.rs.length
  kn : (s.rs.map fun r => (r.f, r.o)).Nodup
  ro : ∀ r ∈ s.rs, r.o + r.cells.length ≤ s.fill r.f
  sz : ∀ r ∈ s.rs, 1 ≤ r.cells.length ∧ r.cells.length ≤ 6
  fl : ∀ r ∈ s.rs, r.f < s.hs.length
  mo : s.most ≤ 1000
  tp : s.used ≤ s.top
  tm : s.top ≤ s.most
  sp : (s.gs.map (·.2) ++ s.here.map (·.c)).Nodup
  s1 : s.h ∉ s.gs.map (·.2) ++ s.here.map (·.c)
  s2 : s.t ∉ s.gs.map (·.2) ++ s.here.map (·.c)
  s3 : s.gd ≠ s.fd
  s4 : s.sd ≠ s.hd
/-- at s.p a house -/
structure HoAt (C : Addr) (H : Hp) (s : HSt) : Prop where
  ob : ∃ dx fs, H s.p = some (.ins C dx fs) ∧ FrF fs s.h s.t ∧ HoF fs s
  lh : H s.h = some (.lst (s.hs.map enc))
  lt : H s.t = some (.lst (s.ts.map enc))
  ne : s.h ≠ s.t
  wf : Wf s.hs s.ts
  gd : H s.gd = some (.dK s.gdL)
  fd : H s.fd = some (.dK s.fdL)
  sd : H s.sd = some (.dT s.sdL)
  hd : H s.hd = some (.dT (hdL s.here))
  gl : ∀ x ∈ s.gs, H x.2 = some (.lst ((s.giv x.1).map fun r => .ref r.w))
  cl : ∀ r ∈ s.here, H r.c = some (.lst r.cells)
  wl : ∀ r ∈ s.rs, H r.w = some (.tup [.int (r.f : Int), .int (r.o : Int)])
  vs : ∀ r ∈ s.here, ∀ v ∈ r.cells, VOk H s.rs v
  pl : HPl s
theorem HoAt.fr {C : Addr} {H : Hp} {s : HSt} (x : HoAt C H s) : FrAt C H s.p s.h s.t s.hs s.ts := by
  obtain ⟨dx, fs, e, ff, _⟩ := x.ob
  exact ⟨⟨dx, fs, e, ff⟩, x.lh, x.lt, x.ne, x.wf⟩
theorem VOk.kp {H H' : Hp} {rs : List Rm} {v : V} (x : VOk H rs v) (k : ∀ a xs, H a = some (.tup xs) → H' a = some (.tup xs)) : VOk H' rs v := by
  rcases x with e | e | ⟨r, hr, q, e, eq⟩
  · exact .inl e
  · exact .inr (.inl e)
  · exact .inr (.inr ⟨r, hr, q, e, k _ _ eq⟩)
theorem HoAt.kp {S : List Addr} {C : Addr} {H H' : Hp} {s : HSt} (x : HoAt C H s) (k : Kp S H H') (hF : ∀ a ∈ S, a ∉ s.foot) (hT : ∀ a ∈ S, ∀ xs, H a ≠ some (.tup xs)) : HoAt C H' s := by
  have m : ∀ {a o}, H a = some o → a ∈ s.foot → H' a = some o := fun {a o} e h => k a o e fun z => hF a z h
  have mt : ∀ a xs, H a = some (.tup xs) → H' a = some (.tup xs) := fun a xs e => k a _ e fun z => hT a z xs e
  obtain ⟨dx, fs, e, ff, hf⟩ := x.ob
  have f1 : ∀ a, a ∈ [s.p, s.h, s.t, s.gd, s.fd, s.sd, s.hd] → a ∈ s.foot := fun a h => List.mem_append_left _ (List.mem_append_left _ h)
  refine ⟨⟨dx, fs, m e (f1 _ (by simp)), ff, hf⟩, m x.lh (f1 _ (by simp)), m x.lt (f1 _ (by simp)), x.ne, x.wf, m x.gd (f1 _ (by simp)), m x.fd (f1 _ (by simp)), m x.sd (f1 _ (by simp)), m x.hd (f1 _ (by simp)),
    fun y hy => m (x.gl y hy) ?_, fun r hr => m (x.cl r hr) ?_, fun r hr => mt _ _ (x.wl r hr), fun r hr v hv => (x.vs r hr v hv).kp mt, x.pl⟩
  · exact List.mem_append_left _ (List.mem_append_right _ (List.mem_map.mpr ⟨y, hy, rfl⟩))
  · exact List.mem_append_right _ (List.mem_map.mpr ⟨r, hr, rfl⟩)
theorem HoAt.kp0 {C : Addr} {H H' : Hp} {s : HSt} (x : HoAt C H s) (k : Kp [] H H') : HoAt C H' s := x.kp k (fun _ z => by cases z) (fun _ z => by cases z)
/-! its tables -/
theorem valV_no {κ : Type} [DecidableEq κ] {kvs : List (κ × V)} {k : κ} (h : k ∉ kvs.map (·.1)) : valV kvs k = none := by
  induction kvs with
  | nil => rfl
  | cons p r ih =>
    have h2 : ¬ k = p.1 ∧ k ∉ r.map (·.1) := by simpa using h
    rw [valV_neg (fun z => h2.1 z.symm)]
    exact ih h2.2
theorem nd_map {α β : Type} {f : α → β} (hf : ∀ a b, f a = f b → a = b) {l : List α} (h : l.Nodup) : (l.map f).Nodup := by
  induction l with
  | nil => exact List.nodup_nil
  | cons a l ih =>
    rw [List.nodup_cons] at h
    rw [List.map_cons, List.nodup_cons]
    refine ⟨fun z => ?_, ih h.2⟩
    obtain ⟨b, hb, e⟩ := List.mem_map.mp z
    exact h.1 (hf _ _ e ▸ hb)
theorem HPl.gk {s : HSt} (x : HPl s) : (s.gdL.map (·.1)).Nodup := by
  have e : s.gdL.map (·.1) = (s.gs.map (·.1)).map fun f : Nat => (.inl (f : Int) : L2.Key) := by simp [HSt.gdL]
  rw [e]
  refine nd_map (fun a b h => ?_) x.gn
  injection h with h; omega
theorem HPl.fk {s : HSt} (x : HPl s) : (s.fdL.map (·.1)).Nodup := by
  have e : s.fdL.map (·.1) = s.gdL.map (·.1) := by simp [HSt.gdL, HSt.fdL]
  rw [e]; exact x.gk
theorem key_inj {r q : Rm} (h : r.key = q.key) : r.f = q.f ∧ r.o = q.o := by
  unfold Rm.key at h
  injection h with h1 h2
  injection h1 with h1
  injection h2 with h2 _
  injection h2 with h2
  omega
theorem HPl.kkn {s : HSt} (x : HPl s) {l : List Rm} (hl : l.Sublist s.rs) : (l.map Rm.key).Nodup := by
  have h1 := (hl.map fun r => (r.f, r.o)).nodup x.kn
  have e : l.map Rm.key = (l.map fun r => (r.f, r.o)).map fun z => ([.inl (z.1 : Int), .inl (z.2 : Int)] : List L2.Key) := by
    rw [List.map_map]; rfl
  rw [e]
  refine nd_map (fun a b h => ?_) h1
  injection h with h1 h2
  injection h1 with h1
  injection h2 with h2 _
  injection h2 with h2
  exact Prod.ext (by omega) (by omega)
theorem same_room {s : HSt} (x : HPl s) {r q : Rm} (hr : r ∈ s.rs) (hq : q ∈ s.rs) (e1 : r.f = q.f) (e2 : r.o = q.o) : r = q := by
  have key : ∀ {l : List Rm}, (l.map fun r => (r.f, r.o)).Nodup → r ∈ l → q ∈ l → r = q := by
    intro l
    induction l with
    | nil => intro _ h; cases h
    | cons a l ih =>
      intro h h1 h2
      rw [List.map_cons, List.nodup_cons] at h
      rcases List.mem_cons.mp h1 with z1 | z1
      · rcases List.mem_cons.mp h2 with z2 | z2
        · rw [z1, z2]
        · exact absurd (List.mem_map.mpr ⟨q, z2, by rw [← z1, e1, e2]⟩) h.1
      · rcases List.mem_cons.mp h2 with z2 | z2
        · exact absurd (List.mem_map.mpr ⟨r, z1, by rw [← z2, e1, e2]⟩) h.1
        · exact ih h.2 z1 z2
  exact key x.kn hr hq
theorem gv_in {s : HSt} (x : HPl s) {f : Nat} {a : Addr} (h : (f, a) ∈ s.gs) : valV s.gdL (.inl (f : Int)) = some (.ref a) :=
  val_nodup x.gk (.inl (f : Int), .ref a) (List.mem_map.mpr ⟨_, h, rfl⟩)
theorem fv_in {s : HSt} (x : HPl s) {f : Nat} {a : Addr} (h : (f, a) ∈ s.gs) : valV s.fdL (.inl (f : Int)) = some (.int (s.fill f : Int)) :=
  val_nodup x.fk (.inl (f : Int), .int (s.fill f : Int)) (List.mem_map.mpr ⟨_, h, rfl⟩)
theorem gv_no {s : HSt} {f : Nat} (h : f ∉ s.gs.map (·.1)) : valV s.gdL (.inl (f : Int)) = none := by
  refine valV_no fun z => h ?_
  simp only [HSt.gdL, List.map_map, List.mem_map] at z ⊢
  obtain ⟨y, hy, e⟩ := z
  exact ⟨y, hy, by injection e with e; omega⟩
theorem fv_no {s : HSt} {f : Nat} (h : f ∉ s.gs.map (·.1)) : valV s.fdL (.inl (f : Int)) = none := by
  refine valV_no fun z => h ?_
  simp only [HSt.fdL, List.map_map, List.mem_map] at z ⊢
  obtain ⟨y, hy, e⟩ := z
  exact ⟨y, hy, by injection e with e; omega⟩
theorem giv_no {s : HSt} (x : HPl s) {f : Nat} (h : f ∉ s.gs.map (·.1)) : s.giv f = [] := by
  unfold HSt.giv
  rw [List.filter_eq_nil_iff]
  intro r hr z
  obtain ⟨a, ha⟩ := x.gm r hr
  have e := of_decide_eq_true z
  exact h (List.mem_map.mpr ⟨_, ha, e⟩)
theorem fill_no {s : HSt} (x : HPl s) {f : Nat} (h : f ∉ s.gs.map (·.1)) : s.fill f = 0 := by
  unfold HSt.fill; rw [giv_no x h]; rfl
theorem sdL_keys (s : HSt) : s.sdL.map (·.1) = s.rs.map Rm.key := by simp [HSt.sdL]
theorem hdL_keys (l : List Rm) : (hdL l).map (·.1) = l.map Rm.key := by simp [hdL]
theorem sv_in {s : HSt} (x : HPl s) {r : Rm} (h : r ∈ s.rs) : valV s.sdL r.key = some (.int (r.cells.length : Int)) :=
  val_nodup (by rw [sdL_keys]; exact x.kkn (List.Sublist.refl _)) (r.key, .int (r.cells.length : Int)) (List.mem_map.mpr ⟨_, h, rfl⟩)
theorem sv_no {s : HSt} {f o : Nat} (h : ∀ r ∈ s.rs, ¬ (r.f = f ∧ r.o = o)) : valV s.sdL [.inl (f : Int), .inl (o : Int)] = none := by
  refine valV_no fun z => ?_
  rw [sdL_keys, List.mem_map] at z
  obtain ⟨r, hr, e⟩ := z
  refine h r hr ?_
  unfold Rm.key at e
  injection e with e1 e2
  injection e1 with e1
  injection e2 with e2 _
  injection e2 with e2
  omega
theorem here_sub (s : HSt) : s.here.Sublist s.rs := List.filter_sublist
theorem hv_in {s : HSt} (x : HPl s) {l : List Rm} (hl : l.Sublist s.rs) {r : Rm} (h : r ∈ l) : valV (hdL l) r.key = some (.ref r.c) :=
  val_nodup (by rw [hdL_keys]; exact x.kkn hl) (r.key, .ref r.c) (List.mem_map.mpr ⟨_, h, rfl⟩)
theorem hv_no {s : HSt} (x : HPl s) {r : Rm} (hr : r ∈ s.rs) (h : s.up r = false) : valV (hdL s.here) r.key = none := by
  refine valV_no fun z => ?_
  rw [hdL_keys, List.mem_map] at z
  obtain ⟨q, hq, e⟩ := z
  obtain ⟨e1, e2⟩ := key_inj e
  have hq2 := List.mem_filter.mp hq
  have := same_room x hq2.1 hr e1 e2
  rw [this] at hq2
  rw [hq2.2] at h; cases h
theorem mem_here {s : HSt} {r : Rm} (hr : r ∈ s.rs) (h : s.up r = true) : r ∈ s.here := List.mem_filter.mpr ⟨hr, h⟩
theorem drop_hd {l : List Rm} (k : List L2.Key) : dropK (hdL l) k = hdL (l.filter fun r => decide (r.key ≠ k)) := by
  unfold dropK hdL
  rw [List.filter_map]; rfl

end Lw
namespace Lw
open PySem PySem.Spec L2 FG
open PyProof.Rows hiding St
/-! ### its methods that change nothing -/
abbrev CH (K : PySem.W.Frag) : Addr := He.ga K "House"
def RoomOut (K : PySem.W.Frag) (H : Hp) (s : HSt) (q : Addr) (a b : Nat) (Y : Rm → Hp → Prop) (E : XK) : Prop :=
  (∀ r ∈ s.rs, r.f = a → r.o = b → s.up r = true → ∀ H', Kp [] H H' → Y r H') ∧
  (∀ r ∈ s.rs, r.f = a → r.o = b → s.up r = false → ∀ i, s.ts[a]? = some (some i) → ∀ d H', Kp [] H H' → H' d = some (.xd [("by", .int i), ("found", .ref q)]) → E (.ref (He.ga K "Gone")) (some d) H') ∧
  ((∀ r ∈ s.rs, ¬ (r.f = a ∧ r.o = b)) → ∀ d H', Kp [] H H' → H' d = some (.xd [("found", .ref q)]) → E (.ref (He.ga K "NoWay")) (some d) H')
def spRoomN (K : PySem.W.Frag) : Sp := fun vs H Q E => ∃ s q, ∃ a b : Nat, vs = [.ref s.p, .ref q] ∧ HoAt (CH K) H s ∧ H q = some (.tup [.int (a : Int), .int (b : Int)]) ∧ RoomOut K H s q a b (fun _ H' => Q .non H') E
/-- a room that stands, and one of its cells -/
def CellOut (K : PySem.W.Frag) (H : Hp) (s : HSt) (q : Addr) (a b : Nat) (k : Int) (Y : Rm → Hp → Prop) (E : XK) : Prop :=
  RoomOut K H s q a b (fun r H' => (0 ≤ k ∧ k < r.cells.length → Y r H') ∧ (¬ (0 ≤ k ∧ k < r.cells.length) → ∀ d H2, Kp [] H' H2 → H2 d = some (.xd [("found", .int k)]) → E (.ref (He.ga K "NoCell")) (some d) H2)) E
def spCellN (K : PySem.W.Frag) : Sp := fun vs H Q E => ∃ s q, ∃ a b : Nat, ∃ k : Int, vs = [.ref s.p, .ref q, .int k] ∧ HoAt (CH K) H s ∧ H q = some (.tup [.int (a : Int), .int (b : Int)]) ∧ CellOut K H s q a b k (fun _ H' => Q .non H') E
def spGet (K : PySem.W.Frag) : Sp := fun vs H Q E => ∃ s q, ∃ a b : Nat, ∃ k : Int, vs = [.ref s.p, .ref q, .int k] ∧ HoAt (CH K) H s ∧ H q = some (.tup [.int (a : Int), .int (b : Int)]) ∧ CellOut K H s q a b k (fun r H' => ∀ v, r.cells[k.toNat]? = some v → Q v H') E
def spSize (K : PySem.W.Frag) : Sp := fun vs H Q E => ∃ s q, ∃ a b : Nat, vs = [.ref s.p, .ref q] ∧ HoAt (CH K) H s ∧ H q = some (.tup [.int (a : Int), .int (b : Int)]) ∧ RoomOut K H s q a b (fun r H' => Q (.int (r.cells.length : Int)) H') E
def spCells (K : PySem.W.Frag) : Sp := fun vs H Q E => ∃ s q, ∃ a b : Nat, vs = [.ref s.p, .ref q] ∧ HoAt (CH K) H s ∧ H q = some (.tup [.int (a : Int), .int (b : Int)]) ∧
  RoomOut K H s q a b (fun r H1 => ∀ l H', H1 l = none → Kp [] H1 H' → H' l = some (.lst r.cells) → Q (.ref l) H') E
def spRooms (K : PySem.W.Frag) : Sp := fun vs H Q _ => ∃ s, ∃ n : Nat, vs = [.ref s.p, nint n] ∧ HoAt (CH K) H s ∧ s.ts[n]? = some none ∧ ∀ l H', H l = none → Kp [] H H' → H' l = some (.lst ((s.giv n).map fun r => .ref r.w)) → Q (.ref l) H'
/-- at p an instance whose table of held cells stands at hd -/
def UsedAt (C : Addr) (H : Hp) (p hd : Addr) (L : List Rm) : Prop := (∃ dx fs, H p = some (.ins C dx fs) ∧ fs.lookup ("held" : Str) = some (.ref hd)) ∧ H hd = some (.dT (hdL L)) ∧ (∀ r ∈ L, H r.c = some (.lst r.cells)) ∧ L.length ≤ 2000
theorem szs_len {l : List Rm} (h : ∀ r ∈ l, 1 ≤ r.cells.length) : l.length ≤ szs l := by
  unfold szs
  induction l with
  | nil => simp
  | cons r l ih =>
    have h1 := h r (by simp)
    have h2 := ih fun x hx => h x (by simp [hx])
    simp; omega
theorem HoAt.usedAt {C : Addr} {H : Hp} {s : HSt} (x : HoAt C H s) : UsedAt C H s.p s.hd s.here := by
  obtain ⟨dx, fs, e, ff, hf⟩ := x.ob
  refine ⟨⟨dx, fs, e, hf.hd⟩, x.hd, x.cl, ?_⟩
  have h1 : s.here.length ≤ s.used := szs_len fun r hr => (x.pl.sz r (List.mem_filter.mp hr).1).1
  have := x.pl.tp; have := x.pl.tm; have := x.pl.mo
  omega
def spUsed (K : PySem.W.Frag) : Sp := fun vs H Q _ => ∃ (p hd : Addr) (L : List Rm), vs = [.ref p] ∧ UsedAt (CH K) H p hd L ∧ ∀ H', Kp [] H H' → Q (.int (szs L : Int)) H'
def spLeft (K : PySem.W.Frag) : Sp := fun vs H Q _ => ∃ s : HSt, vs = [.ref s.p] ∧ HoAt (CH K) H s ∧ ∀ H', Kp [] H H' → Q (.int ((s.most : Int) - s.used)) H'
/-- of None, a number, a pair of numbers from nought on -/
def spIsVal (K : PySem.W.Frag) : Sp := fun vs H Q _ => ∃ (s : HSt) (v : V), vs = [.ref s.p, v] ∧ HoAt (CH K) H s ∧ ((VOk H s.rs v ∧ ∀ H', Kp [] H H' → Q (.bl true) H') ∨
  ∃ q, ∃ a b : Nat, v = .ref q ∧ H q = some (.tup [.int (a : Int), .int (b : Int)]) ∧ (∀ r ∈ s.rs, ¬ (r.f = a ∧ r.o = b)) ∧ ∀ H', Kp [] H H' → Q (.bl false) H')
theorem way_th {H : Hp} {q : Addr} {a b : Nat} (e : H q = some (.tup [.int (a : Int), .int (b : Int)])) : Th H (.ref q) ∧ pairV H (.ref q) = true := by
  refine ⟨⟨.tup e, fun xs h => ?_⟩, ?_⟩
  · rw [tupV_ref e] at h
    cases h
    refine ⟨by simp, fun x hx => ?_⟩
    simp only [List.mem_cons, List.not_mem_nil, or_false] at hx
    rcases hx with rfl | rfl
    · exact .int _
    · exact .int _
  · unfold pairV
    rw [tupV_ref e]
    simp [pairL, posV]
theorem atI_last {α : Type} {xs : List α} {i : Nat} {x : α} (h : xs[i]? = some x) : atI xs (i : Int) = some x := atI_nat h
section
variable {P : Program} {w : World} {K : PySem.W.Frag} {mg : Str → Option Value} {base : Heap}
theorem ok_room (T : Tx K mg) {fd : FuncData} {f : Addr} (F : Fun K "need_room" "House.need_room" s_House_need_room f fd) (c_is_pair : Cal P w K mg base 2 "is_pair" spPair) (r_NoWay : Rai P w K mg base "NoWay" (He.ga K "NoWay") ["found"])
    (r_Gone : Rai P w K mg base "Gone" (He.ga K "Gone") ["found", "by"]) : FnG P w K mg base 3 f fd ["self", "way"] (spRoomN K) := by
  refine FnG.of F sc_House_need_room (fun vs H Q E h => ?_) (fun cdv A outer s H vs Q E hr h => ?_)
  · obtain ⟨s, q, a, b, rfl, _⟩ := h; rfl
  · obtain ⟨s, q, a, b, rfl, ho, hq, o1, o2, o3⟩ := h
    obtain ⟨dx, fs, e, ff, hf⟩ := ho.ob
    obtain ⟨th, tp⟩ := way_th hq
    refine ⟨_, pss_cons (ps_if (PW.pt (pw_or (pt_not (pt_val (gc c_is_pair (hr.mono (by decide)) tkE (pa_cons (pv 1) (pa_nil))))) (pw_or1 (pt_cmp (pc_dnotin hr.hu (pv 1) (kfld K (pv 0))))))) (pss_one (ps_rais r_NoWay (hr.mono (by decide)) tkE (pa_cons (pv 1) (pa_nil)))) (pss_nil))
      (pss_one (ps_if (pt_cmp (pc_dnotin hr.hu (pv 1) (kfld K (pv 0)))) (pss_one (ps_rais r_Gone (hr.mono (by decide)) tkE (pa_cons (pv 1) (pa_cons (pe_ix (kixL K) (kfld K (pv 0)) (pe_ix (kixT K) (pv 1) (pe_int) (fun _ _ => rfl)) (fun _ _ => rfl)) (pa_nil))))) (pss_nil))), ?_⟩
    refine ⟨_, rfl, .ref q, rfl, th, fun H1 k1 => ⟨_, rfl, ?_⟩⟩
    have ho1 := ho.kp0 k1
    have e1 := k1 _ _ e (by simp)
    have hq1 := k1 _ _ hq (by simp)
    rw [tp]
    refine iteF ⟨_, rfl, _, rfl, s.p, CH K, dx, fs, _, rfl, e1, T.c_House, T.n_House_sizes, hf.sd, s.sd, _, rfl, DGet.t (k := [.inl (a : Int), .inl (b : Int)]) ho1.sd hq1, _, rfl, ?_⟩
    by_cases hx : ∃ r ∈ s.rs, r.f = a ∧ r.o = b
    · obtain ⟨r, hr2, ea, eb⟩ := hx
      have ek : ([.inl (a : Int), .inl (b : Int)] : List L2.Key) = r.key := by unfold Rm.key; rw [ea, eb]
      rw [ek, sv_in ho.pl hr2]
      refine iteF ⟨_, rfl, _, rfl, s.p, CH K, dx, fs, _, rfl, e1, T.c_House, T.n_House_held, hf.hd, s.hd, _, rfl, DGet.t (k := [.inl (a : Int), .inl (b : Int)]) ho1.hd hq1, _, rfl, ?_⟩
      rw [ek]
      cases hu : s.up r with
      | true =>
        rw [hv_in ho.pl (here_sub s) (mem_here hr2 hu)]
        exact iteF (o1 r hr2 ea eb hu H1 k1)
      | false =>
        rw [hv_no ho.pl hr2 hu]
        have hfl := ho.pl.fl r hr2
        have wl := ho.wf.len
        have hta : a < s.ts.length := by omega
        obtain ⟨i, hi⟩ : ∃ i, s.ts[a]? = some (some i) := by
          rw [List.getElem?_eq_getElem hta]
          cases hc : s.ts[a] with
          | none =>
            unfold HSt.up at hu
            rw [ea, List.getElem?_eq_getElem hta, hc] at hu
            simp at hu
          | some i => exact ⟨i, rfl⟩
        refine iteT ⟨_, rfl, _, rfl, s.p, CH K, dx, fs, _, rfl, e1, T.c_House, T.n_House_takers, ff.tt, _, rfl, q, _, _, _, rfl, rfl, SqT.of hq1, atI_nat (j := 0) rfl, s.t, _, _, _, rfl, rfl, SqL.of ho1.lt, get_enc hi, rfl, (by show 2 ≤ 10; decide), fun d hd => ?_⟩
        exact o2 r hr2 ea eb hu i hi d _ (k1.new hd) upd_same
    · have hno : ∀ r ∈ s.rs, ¬ (r.f = a ∧ r.o = b) := fun r hr2 hh => hx ⟨r, hr2, hh⟩
      rw [sv_no hno]
      exact iteT ⟨_, rfl, rfl, (by show 1 ≤ 10; decide), fun d hd => o3 hno d _ (k1.new hd) upd_same⟩
theorem ok_cellN (T : Tx K mg) {fd : FuncData} {f : Addr} (F : Fun K "need_cell" "House.need_cell" s_House_need_cell f fd) (m_need_room : Met P w K mg base 3 (CH K) "need_room" (spRoomN K)) (c_is_whole : Cal P w K mg base 2 "is_whole" spWhole)
    (r_NoCell : Rai P w K mg base "NoCell" (He.ga K "NoCell") ["found"]) : FnG P w K mg base 4 f fd ["self", "way", "k"] (spCellN K) := by
  refine FnG.of F sc_House_need_cell (fun vs H Q E h => ?_) (fun cdv A outer s H vs Q E hr h => ?_)
  · obtain ⟨s, q, a, b, k, rfl, _⟩ := h; rfl
  · obtain ⟨s, q, a, b, k, rfl, ho, hq, o1, o2, o3⟩ := h
    obtain ⟨dx, fs, e, ff, hf⟩ := ho.ob
    refine ⟨_, pss_cons (ps_expr (gm m_need_room (hr.mono (by decide)) tkE (pv 0) (pa_cons (pv 1) (pa_nil))))
      (pss_one (ps_if (pt_not (pt_val (gc c_is_whole (hr.mono (by decide)) tkE (pa_cons (pv 2) (pa_cons (pe_int) (pa_cons (pe_op op_sub (pe_dget hr.hu (kfld K (pv 0)) (pv 1) (fun _ _ => rfl)) (pe_int)) (pa_nil))))))) (pss_one (ps_rais r_NoCell (hr.mono (by decide)) tkE (pa_cons (pv 2) (pa_nil)))) (pss_nil))), ?_⟩
    refine ⟨_, rfl, s.p, dx, fs, rfl, e, ff.no _ (by decide +kernel), _, rfl, s, q, a, b, rfl, ho, hq, fun r hr2 ea eb hu H1 k1 => ?_, o2, o3⟩
    have ho1 := ho.kp0 k1
    have e1 := k1 _ _ e (by simp)
    have hq1 := k1 _ _ hq (by simp)
    have ek : ([.inl (a : Int), .inl (b : Int)] : List L2.Key) = r.key := by unfold Rm.key; rw [ea, eb]
    obtain ⟨y1, y2⟩ := o1 r hr2 ea eb hu H1 k1
    refine ⟨_, rfl, _, rfl, s.p, CH K, dx, fs, _, rfl, e1, T.c_House, T.n_House_sizes, hf.sd, _, rfl, s.sd, _, rfl, by rw [← sv_in ho.pl hr2, ← ek]; exact DGet.t (k := [.inl (a : Int), .inl (b : Int)]) ho1.sd hq1, _, _, rfl, rfl, k, 0, _, rfl, _, rfl, ?_⟩
    by_cases hk : 0 ≤ k ∧ k < r.cells.length
    · have z : decide ((0 : Int) ≤ k ∧ k ≤ (r.cells.length : Int) - 1) = true := decide_eq_true ⟨hk.1, by omega⟩
      rw [z]
      exact iteF (y1 hk)
    · have z : decide ((0 : Int) ≤ k ∧ k ≤ (r.cells.length : Int) - 1) = false := decide_eq_false fun c => hk ⟨c.1, by omega⟩
      rw [z]
      exact iteT ⟨_, rfl, rfl, (by show 1 ≤ 10; decide), fun d hd => y2 hk d _ (Kp.refl.new hd) upd_same⟩
theorem ok_get (T : Tx K mg) {fd : FuncData} {f : Addr} (F : Fun K "get" "House.get" s_House_get f fd) (m_need_cell : Met P w K mg base 4 (CH K) "need_cell" (spCellN K)) : FnG P w K mg base 5 f fd ["self", "way", "k"] (spGet K) := by
  refine FnG.of F sc_House_get (fun vs H Q E h => ?_) (fun cdv A outer s H vs Q E hr h => ?_)
  · obtain ⟨s, q, a, b, k, rfl, _⟩ := h; rfl
  · obtain ⟨s, q, a, b, k, rfl, ho, hq, o1, o2, o3⟩ := h
    obtain ⟨dx, fs, e, ff, hf⟩ := ho.ob
    refine ⟨_, pss_cons (ps_expr (gm m_need_cell (hr.mono (by decide)) tkE (pv 0) (pa_cons (pv 1) (pa_cons (pv 2) (pa_nil)))))
      (pss_one (ps_ret (pe_ix (kixL K) (pe_dget hr.hu (kfld K (pv 0)) (pv 1) (fun _ _ => rfl)) (pv 2) (fun _ _ => rfl)))), ?_⟩
    refine ⟨_, rfl, s.p, dx, fs, rfl, e, ff.no _ (by decide +kernel), _, rfl, _, rfl, s, q, a, b, k, rfl, ho, hq, fun r hr2 ea eb hu H1 k1 => ⟨fun hk => ?_, (o1 r hr2 ea eb hu H1 k1).2⟩, o2, o3⟩
    have ho1 := ho.kp0 k1
    have e1 := k1 _ _ e (by simp)
    have hq1 := k1 _ _ hq (by simp)
    have hh := mem_here hr2 hu
    have ek : ([.inl (a : Int), .inl (b : Int)] : List L2.Key) = r.key := by unfold Rm.key; rw [ea, eb]
    obtain ⟨j, rfl⟩ : ∃ j : Nat, k = j := ⟨k.toNat, by omega⟩
    have hj : j < r.cells.length := by omega
    refine ⟨_, rfl, s.p, CH K, dx, fs, _, rfl, e1, T.c_House, T.n_House_held, hf.hd, _, rfl, s.hd, _, rfl, by rw [← hv_in ho.pl (here_sub s) hh, ← ek]; exact DGet.t (k := [.inl (a : Int), .inl (b : Int)]) ho1.hd hq1, _, rfl, r.c, _, _, _, rfl, rfl, SqL.of (ho1.cl r hh), atI_nat (List.getElem?_eq_getElem hj), ?_⟩
    exact (o1 r hr2 ea eb hu H1 k1).1 hk _ (by rw [Int.toNat_natCast]; exact List.getElem?_eq_getElem hj)
theorem ok_size (T : Tx K mg) {fd : FuncData} {f : Addr} (F : Fun K "size" "House.size" s_House_size f fd) (m_need_room : Met P w K mg base 3 (CH K) "need_room" (spRoomN K)) : FnG P w K mg base 4 f fd ["self", "way"] (spSize K) := by
  refine FnG.of F sc_House_size (fun vs H Q E h => ?_) (fun cdv A outer s H vs Q E hr h => ?_)
  · obtain ⟨s, q, a, b, rfl, _⟩ := h; rfl
  · obtain ⟨s, q, a, b, rfl, ho, hq, o1, o2, o3⟩ := h
    obtain ⟨dx, fs, e, ff, hf⟩ := ho.ob
    refine ⟨_, pss_cons (ps_expr (gm m_need_room (hr.mono (by decide)) tkE (pv 0) (pa_cons (pv 1) (pa_nil))))
      (pss_one (ps_ret (pe_dget hr.hu (kfld K (pv 0)) (pv 1) (fun _ _ => rfl)))), ?_⟩
    refine ⟨_, rfl, s.p, dx, fs, rfl, e, ff.no _ (by decide +kernel), _, rfl, s, q, a, b, rfl, ho, hq, fun r hr2 ea eb hu H1 k1 => ?_, o2, o3⟩
    have ho1 := ho.kp0 k1
    have ek : ([.inl (a : Int), .inl (b : Int)] : List L2.Key) = r.key := by unfold Rm.key; rw [ea, eb]
    exact ⟨_, rfl, s.p, CH K, dx, fs, _, rfl, k1 _ _ e (by simp), T.c_House, T.n_House_sizes, hf.sd, _, rfl, s.sd, _, rfl, by rw [← sv_in ho.pl hr2, ← ek]; exact DGet.t (k := [.inl (a : Int), .inl (b : Int)]) ho1.sd (k1 _ _ hq (by simp)), o1 r hr2 ea eb hu H1 k1⟩
theorem ok_cells (T : Tx K mg) {fd : FuncData} {f : Addr} (F : Fun K "cells" "House.cells" s_House_cells f fd) (m_need_room : Met P w K mg base 3 (CH K) "need_room" (spRoomN K)) : FnG P w K mg base 4 f fd ["self", "way"] (spCells K) := by
  refine FnG.of F sc_House_cells (fun vs H Q E h => ?_) (fun cdv A outer s H vs Q E hr h => ?_)
  · obtain ⟨s, q, a, b, rfl, _⟩ := h; rfl
  · obtain ⟨s, q, a, b, rfl, ho, hq, o1, o2, o3⟩ := h
    obtain ⟨dx, fs, e, ff, hf⟩ := ho.ob
    refine ⟨_, pss_cons (ps_expr (gm m_need_room (hr.mono (by decide)) tkE (pv 0) (pa_cons (pv 1) (pa_nil))))
      (pss_one (ps_ret (pe_callTy (klist K) (by rfl) T.z_list (by decide +kernel) (pa_cons (pe_dget hr.hu (kfld K (pv 0)) (pv 1) (fun _ _ => rfl)) (pa_nil))))), ?_⟩
    refine ⟨_, rfl, s.p, dx, fs, rfl, e, ff.no _ (by decide +kernel), _, rfl, s, q, a, b, rfl, ho, hq, fun r hr2 ea eb hu H1 k1 => ?_, o2, o3⟩
    have ho1 := ho.kp0 k1
    have hh := mem_here hr2 hu
    have ek : ([.inl (a : Int), .inl (b : Int)] : List L2.Key) = r.key := by unfold Rm.key; rw [ea, eb]
    exact ⟨_, rfl, s.p, CH K, dx, fs, _, rfl, k1 _ _ e (by simp), T.c_House, T.n_House_held, hf.hd, _, rfl, s.hd, _, rfl, by rw [← hv_in ho.pl (here_sub s) hh, ← ek]; exact DGet.t (k := [.inl (a : Int), .inl (b : Int)]) ho1.hd (k1 _ _ hq (by simp)), r.c, _, rfl, .inl (SqL.of (ho1.cl r hh)), fun l hl => o1 r hr2 ea eb hu H1 k1 l _ hl (Kp.refl.new hl) upd_same⟩
theorem ok_rooms (T : Tx K mg) {fd : FuncData} {f : Addr} (F : Fun K "rooms" "House.rooms" s_House_rooms f fd) (m_need_standing : Met P w K mg base 4 (CH K) "need_standing" (spStd (CH K))) : FnG P w K mg base 5 f fd ["self", "frame"] (spRooms K) := by
  refine FnG.of F sc_House_rooms (fun vs H Q E h => ?_) (fun cdv A outer s H vs Q E hr h => ?_)
  · obtain ⟨s, n, rfl, _⟩ := h; rfl
  · obtain ⟨s, n, rfl, ho, hn, q⟩ := h
    obtain ⟨dx, fs, e, ff, hf⟩ := ho.ob
    refine ⟨_, pss_cons (ps_expr (gm m_need_standing (hr.mono (by decide)) takes0 (pv 0) (pa_cons (pv 1) (pa_nil))))
      (pss_one (ps_ret (pe_callTy (klist K) (by rfl) T.z_list (by decide +kernel) (pa_cons (pe_dget2 hr.hu (kfld K (pv 0)) (pv 1) (pe_lst (pa_nil)) ⟨rfl, rfl, rfl, rfl⟩) (pa_nil))))), ?_⟩
    refine ⟨_, rfl, s.p, dx, fs, rfl, e, ff.no _ (by decide +kernel), _, rfl, s.p, s.h, s.t, s.hs, s.ts, n, rfl, ho.fr, hn, ?_⟩
    refine ⟨_, rfl, s.p, CH K, dx, fs, _, rfl, e, T.c_House, T.n_House_given, hf.gd, s.gd, rfl, .inl ⟨_, .inl ho.gd⟩, _, rfl, by decide, fun l0 hl0 => ?_⟩
    have k0 := (Kp.refl (S := []) (H := H)).new (o := .lst []) hl0
    have e0 : L2.upd H l0 (.lst []) l0 = some (.lst []) := upd_same
    generalize L2.upd H l0 (.lst []) = H1 at *
    have ho1 := ho.kp0 k0
    have pl := ho.pl
    refine ⟨_, DGet.k (k := .inl (n : Int)) ho1.gd, ?_⟩
    by_cases hg : n ∈ s.gs.map (·.1)
    · obtain ⟨⟨f', a⟩, hx, rfl⟩ := List.mem_map.mp hg
      rw [gv_in pl hx]
      exact ⟨a, _, rfl, .inl (SqL.of (ho1.gl _ hx)), fun l hl => q l _ (k0.free hl) (k0.new hl) upd_same⟩
    · rw [gv_no hg]
      refine ⟨l0, [], rfl, .inl (SqL.of e0), fun l hl => q l _ (k0.free hl) (k0.new hl) ?_⟩
      rw [upd_same, giv_no pl hg]; rfl
theorem ok_used (T : Tx K mg) {fd : FuncData} {f : Addr} (F : Fun K "used" "House.used" s_House_used f fd) : FnG P w K mg base 1 f fd ["self"] (spUsed K) := by
  refine FnG.of F sc_House_used (fun vs H Q E h => ?_) (fun cdv A outer s H vs Q E hr h => ?_)
  · obtain ⟨p, hd, L, rfl, _⟩ := h; rfl
  · obtain ⟨p, hd, L, rfl, ⟨⟨dx, fs, e, hfh⟩, ehd, ecl, hl1⟩, q⟩ := h
    refine ⟨_, pss_one (ps_ret (pe_callB (ksum K) (by rfl) T.z_sum (by decide +kernel) (pa_cons (pe_lock (pe_lc (own := [("cells", 1)]) (g := gName 1) (tt := tYes) rfl sc_House_used.nd (pi_valuesT (kfld K (pv 0))) (blkOk_by (own := [("cells", 1)]) (N := ["self", "cells"]) (sc := defScope s_House_used) (by decide +kernel)) (fun _ _ _ _ _ => pg_name (i := 1) sc_House_used.nd rfl (by first | exact Or.inl rfl | exact Or.inr rfl)) (fun _ _ _ _ _ => by exact pts_nil) (fun _ _ _ _ _ => by exact pe_callB (klen K) (by rfl) T.z_len PySem.boot_len (pa_cons (pv 1) (pa_nil))))) (pa_nil)))), ?_⟩
    refine ⟨hd, _, ehd, trivial, fun od => ?_⟩
    have np : p ≠ hd := ne_of e ehd (fun z => by cases z)
    refine ⟨_, rfl, p, CH K, dx, fs, _, rfl, (upd_ne np).trans e, T.c_House, T.n_House_held, hfh, hd, od, _, rfl, upd_same, fun D hD => ?_⟩
    have hDH : H D = none := by
      by_cases c : D = hd
      · rw [c, upd_same] at hD; cases hD
      · rw [upd_ne c] at hD; exact hD
    have nD : D ≠ hd := fun c => by rw [c, upd_same] at hD; cases hD
    refine lc_it walk_valsT (fun i H2 => (∀ b o, H b = some o → b ≠ hd → H2 b = some o) ∧ H2 hd = some (.frz od (.dT (hdL L))) ∧ H2 D = some (.lst ((L.take i).map fun r => V.int (r.cells.length : Int))))
      ⟨fun b o eb hb => ?_, ?_, upd_same⟩ (fun i H2 _ p => p.2.1) ?_ ?_
    · rw [upd_ne (ne_of_none eb hDH), upd_ne hb]; exact eb
    · rw [upd_ne nD.symm, upd_same]
    · rintro i x H3 H2 hi ⟨k2, e2, eD⟩ ⟨rfl, key, hx⟩
      have hi2 : i < L.length := by simpa [hdL] using hi
      have hr2 : L[i]? = some L[i] := List.getElem?_eq_getElem hi2
      obtain rfl : x = .ref L[i].c := by
        unfold hdL at hx
        rw [List.getElem?_map, hr2] at hx
        have hx2 : (L[i].key, V.ref L[i].c) = (key, x) := Option.some.inj hx
        exact (congrArg Prod.snd hx2).symm
      have hm : L[i] ∈ L := List.getElem_mem hi2
      have ec := ecl _ hm
      have nc : L[i].c ≠ hd := ne_of ec ehd (fun z => by cases z)
      refine ⟨rfl, _, rfl, _, _, rfl, .inl (SqL.of (k2 _ _ ec nc)), _, eD, ?_, fun b o eb hb => (upd_ne (ne_of_none eb hDH)).trans (k2 b o eb hb), (upd_ne nD.symm).trans e2, ?_⟩
      · rw [List.length_map, List.length_take]
        exact Nat.lt_of_le_of_lt (m := 2000) (by omega) (by decide)
      · rw [upd_same, List.take_succ_eq_append_getElem hi2, List.map_append]; rfl
    · rintro H2 ⟨k2, e2, eD⟩
      have hn : (hdL L).length = L.length := by simp [hdL]
      rw [hn, List.take_length] at eD
      refine ⟨e2, D, L.map fun r => (r.cells.length : Int), rfl, SqL.of ((upd_ne nD).trans (eD.trans (by rw [List.map_map]; rfl))), ?_⟩
      have es : (L.map fun r => (r.cells.length : Int)).sum = (szs L : Int) := by
        unfold szs
        generalize L = l
        induction l with
        | nil => rfl
        | cons r l ih => simp only [List.map_cons, List.sum_cons, ih]; omega
      rw [es]
      refine q _ fun b o eb _ => ?_
      by_cases c : b = hd
      · subst c; rw [upd_same, ← ehd, eb]
      · rw [upd_ne c]; exact k2 b o eb c
theorem ok_left (T : Tx K mg) {fd : FuncData} {f : Addr} (F : Fun K "left" "House.left" s_House_left f fd) (m_used : Met P w K mg base 1 (CH K) "used" (spUsed K)) : FnG P w K mg base 2 f fd ["self"] (spLeft K) := by
  refine FnG.of F sc_House_left (fun vs H Q E h => ?_) (fun cdv A outer s H vs Q E hr h => ?_)
  · obtain ⟨s, rfl, _⟩ := h; rfl
  · obtain ⟨s, rfl, ho, q⟩ := h
    obtain ⟨dx, fs, e, ff, hf⟩ := ho.ob
    refine ⟨_, pss_one (ps_ret (pe_op op_sub (kfld K (pv 0)) (gm0 m_used (hr.mono (by decide)) takes0 (pv 0)))), ?_⟩
    exact ⟨_, rfl, s.p, CH K, dx, fs, _, rfl, e, T.c_House, T.n_House_most, hf.most, _, rfl, s.p, dx, fs, rfl, e, ff.no _ (by decide +kernel), s.p, s.hd, s.here, rfl, ho.usedAt, fun H1 k1 => ⟨_, _, rfl, rfl, q H1 k1⟩⟩
end

end Lw
namespace Lw
open PySem PySem.Spec L2 FG
open PyProof.Rows hiding St
/-! ### a room made, a cell put: the state behind -/
def HSt.gsPut (s : HSt) (f : Nat) (a : Addr) : List (Nat × Addr) := if f ∈ s.gs.map (·.1) then s.gs.map (fun x => if x.1 = f then (f, a) else x) else s.gs ++ [(f, a)]
def HSt.made (s : HSt) (f k : Nat) (a c w : Addr) : HSt := { s with rs := s.rs ++ [⟨f, s.fill f, List.replicate k .non, c, w⟩], gs := s.gsPut f a, top := max s.top (s.used + k) }
theorem gsPut_keys (s : HSt) (f : Nat) (a : Addr) : (s.gsPut f a).map (·.1) = if f ∈ s.gs.map (·.1) then s.gs.map (·.1) else s.gs.map (·.1) ++ [f] := by
  unfold HSt.gsPut
  split
  · rw [List.map_map]
    refine List.map_congr_left fun x _ => ?_
    show (if x.1 = f then (f, a) else x).1 = x.1
    split
    · rename_i h; exact h.symm
    · rfl
  · rw [List.map_append]; rfl
theorem gsPut_mem {s : HSt} {f : Nat} {a : Addr} {x : Nat × Addr} (h : x ∈ s.gsPut f a) : x = (f, a) ∨ (x ∈ s.gs ∧ x.1 ≠ f) := by
  unfold HSt.gsPut at h
  split at h
  · obtain ⟨y, hy, e⟩ := List.mem_map.mp h
    by_cases c : y.1 = f
    · rw [if_pos c] at e; exact .inl e.symm
    · rw [if_neg c] at e; subst e; exact .inr ⟨hy, c⟩
  · rename_i hn
    rcases List.mem_append.mp h with g | g
    · exact .inr ⟨g, fun c => hn (List.mem_map.mpr ⟨x, g, c⟩)⟩
    · rw [List.mem_singleton] at g; exact .inl g
theorem mem_gsPut (s : HSt) (f : Nat) (a : Addr) : (f, a) ∈ s.gsPut f a := by
  unfold HSt.gsPut
  split
  · rename_i h
    obtain ⟨y, hy, e⟩ := List.mem_map.mp h
    exact List.mem_map.mpr ⟨y, hy, if_pos e⟩
  · exact List.mem_append_right _ (List.mem_singleton.mpr rfl)
theorem mem_gsPut_of {s : HSt} {f : Nat} {a : Addr} {x : Nat × Addr} (h : x ∈ s.gs) (n : x.1 ≠ f) : x ∈ s.gsPut f a := by
  unfold HSt.gsPut
  split
  · exact List.mem_map.mpr ⟨x, h, if_neg n⟩
  · exact List.mem_append_left _ h
theorem made_giv (s : HSt) (f k : Nat) (a c w : Addr) (g : Nat) : (s.made f k a c w).giv g = s.giv g ++ if g = f then [⟨f, s.fill f, List.replicate k .non, c, w⟩] else [] := by
  unfold HSt.giv HSt.made
  rw [List.filter_append]
  congr 1
  by_cases h : g = f
  · subst h; simp
  · rw [if_neg h]; simp [Ne.symm h]
theorem szs_app (l m : List Rm) : szs (l ++ m) = szs l + szs m := by unfold szs; rw [List.map_append, List.sum_append]
theorem made_fill (s : HSt) (f k : Nat) (a c w : Addr) (g : Nat) : (s.made f k a c w).fill g = s.fill g + if g = f then k else 0 := by
  unfold HSt.fill
  rw [made_giv, szs_app]
  congr 1
  split
  · simp [szs]
  · rfl
theorem made_here {s : HSt} {f k : Nat} {a c w : Addr} (h : s.ts[f]? = some none) : (s.made f k a c w).here = s.here ++ [⟨f, s.fill f, List.replicate k .non, c, w⟩] := by
  unfold HSt.here HSt.made
  rw [List.filter_append]
  congr 1
  show List.filter (fun r : Rm => decide (s.ts[r.f]? = some none)) [(⟨f, s.fill f, List.replicate k .non, c, w⟩ : Rm)] = _
  simp [h]
theorem putK_gd {s : HSt} (f : Nat) (a : Addr) : putK s.gdL (.inl (f : Int)) (.ref a) = (s.gsPut f a).map fun x => (.inl (x.1 : Int), .ref x.2) := by
  unfold putK HSt.gsPut
  have e : (s.gdL.any fun kv => decide (kv.1 = .inl (f : Int))) = decide (f ∈ s.gs.map (·.1)) := by
    rw [Bool.eq_iff_iff, List.any_eq_true, decide_eq_true_eq]
    constructor
    · rintro ⟨y, hy, h⟩
      obtain ⟨x, hx, rfl⟩ := List.mem_map.mp hy
      have h2 := of_decide_eq_true h
      injection h2 with h2
      exact List.mem_map.mpr ⟨x, hx, by omega⟩
    · intro h
      obtain ⟨x, hx, rfl⟩ := List.mem_map.mp h
      exact ⟨_, List.mem_map.mpr ⟨x, hx, rfl⟩, decide_eq_true rfl⟩
  rw [e]
  by_cases h : f ∈ s.gs.map (·.1)
  · rw [if_pos (decide_eq_true h), if_pos h]
    unfold HSt.gdL
    rw [List.map_map, List.map_map]
    refine List.map_congr_left fun x _ => ?_
    show (if (Sum.inl (x.1 : Int) : L2.Key) = .inl (f : Int) then _ else _) = _
    by_cases c : x.1 = f
    · rw [if_pos (by rw [c])]
      show _ = ((.inl ((if x.1 = f then (f, a) else x).1 : Int), .ref (if x.1 = f then (f, a) else x).2) : L2.Key × V)
      rw [if_pos c]
      show (((.inl (x.1 : Int) : L2.Key), V.ref a) : L2.Key × V) = ((.inl (f : Int) : L2.Key), V.ref a)
      rw [c]
    · rw [if_neg (fun z => by injection z with z; omega)]
      show _ = ((.inl ((if x.1 = f then (f, a) else x).1 : Int), .ref (if x.1 = f then (f, a) else x).2) : L2.Key × V)
      rw [if_neg c]
  · rw [if_neg (by rw [decide_eq_false h]; exact Bool.false_ne_true), if_neg h, List.map_append]; rfl
theorem putK_fd {s : HSt} (f k : Nat) (a c w : Addr) : putK s.fdL (.inl (f : Int)) (.int ((s.fill f : Int) + k)) = (s.made f k a c w).fdL := by
  unfold putK
  have e : (s.fdL.any fun kv => decide (kv.1 = .inl (f : Int))) = decide (f ∈ s.gs.map (·.1)) := by
    rw [Bool.eq_iff_iff, List.any_eq_true, decide_eq_true_eq]
    constructor
    · rintro ⟨y, hy, h⟩
      obtain ⟨x, hx, rfl⟩ := List.mem_map.mp hy
      have h2 := of_decide_eq_true h
      injection h2 with h2
      exact List.mem_map.mpr ⟨x, hx, by omega⟩
    · intro h
      obtain ⟨x, hx, rfl⟩ := List.mem_map.mp h
      exact ⟨_, List.mem_map.mpr ⟨x, hx, rfl⟩, decide_eq_true rfl⟩
  rw [e]
  have hf : (s.made f k a c w).fill f = s.fill f + k := by rw [made_fill, if_pos rfl]
  by_cases h : f ∈ s.gs.map (·.1)
  · rw [if_pos (decide_eq_true h)]
    unfold HSt.fdL
    show _ = (s.gsPut f a).map _
    unfold HSt.gsPut
    rw [if_pos h, List.map_map, List.map_map]
    refine List.map_congr_left fun x _ => ?_
    show (if (Sum.inl (x.1 : Int) : L2.Key) = .inl (f : Int) then _ else _) = _
    by_cases c' : x.1 = f
    · rw [if_pos (by rw [c'])]
      show _ = ((.inl ((if x.1 = f then (f, a) else x).1 : Int), .int ((s.made f k a c w).fill (if x.1 = f then (f, a) else x).1 : Int)) : L2.Key × V)
      rw [if_pos c']
      show (((.inl (x.1 : Int) : L2.Key), V.int ((s.fill f : Int) + k)) : L2.Key × V) = ((.inl (f : Int) : L2.Key), V.int ((s.made f k a c w).fill f : Int))
      rw [c', hf]; rfl
    · rw [if_neg (fun z => by injection z with z; omega)]
      show _ = ((.inl ((if x.1 = f then (f, a) else x).1 : Int), .int ((s.made f k a c w).fill (if x.1 = f then (f, a) else x).1 : Int)) : L2.Key × V)
      rw [if_neg c', made_fill, if_neg c']; rfl
  · rw [if_neg (by rw [decide_eq_false h]; exact Bool.false_ne_true)]
    unfold HSt.fdL
    show _ = (s.gsPut f a).map _
    unfold HSt.gsPut
    rw [if_neg h, List.map_append]
    congr 1
    · refine List.map_congr_left fun x hx => ?_
      have c' : x.1 ≠ f := fun z => h (List.mem_map.mpr ⟨x, hx, z⟩)
      rw [made_fill, if_neg c']; rfl
    · show _ = [((.inl (f : Int), .int ((s.made f k a c w).fill f : Int)) : L2.Key × V)]
      rw [hf]; rfl
theorem new_key {s : HSt} (x : HPl s) (f : Nat) : ∀ r ∈ s.rs, ¬ (r.f = f ∧ r.o = s.fill f) := by
  rintro r hr ⟨e1, e2⟩
  have h1 := x.ro r hr
  have h2 := (x.sz r hr).1
  rw [e1] at h1
  omega
theorem putK_sd {s : HSt} (x : HPl s) (f k : Nat) (a c w : Addr) : putK s.sdL [.inl (f : Int), .inl (s.fill f : Int)] (.int (k : Int)) = (s.made f k a c w).sdL := by
  rw [putK_new _ (sv_no (new_key x f))]
  unfold HSt.sdL HSt.made
  rw [List.map_append]
  congr 1
  simp [Rm.key]
theorem putK_hd {s : HSt} (x : HPl s) (f k : Nat) (a c w : Addr) (h : s.ts[f]? = some none) : putK (hdL s.here) [.inl (f : Int), .inl (s.fill f : Int)] (.ref c) = hdL (s.made f k a c w).here := by
  rw [putK_new, made_here h]
  · unfold hdL; rw [List.map_append]; rfl
  · refine valV_no fun z => ?_
    rw [hdL_keys, List.mem_map] at z
    obtain ⟨r, hr, e⟩ := z
    refine new_key x f r (List.mem_filter.mp hr).1 ?_
    unfold Rm.key at e
    injection e with e1 e2
    injection e1 with e1
    injection e2 with e2 _
    injection e2 with e2
    omega
theorem mem_giv {s : HSt} {f : Nat} {r : Rm} : r ∈ s.giv f ↔ r ∈ s.rs ∧ r.f = f := by
  unfold HSt.giv; rw [List.mem_filter, decide_eq_true_eq]
theorem HPl.made {s : HSt} (x : HPl s) {f k : Nat} {a c w : Addr} (hf : s.ts[f]? = some none) (hl : f < s.hs.length) (k1 : 1 ≤ k) (k6 : k ≤ 6) (hu : s.used + k ≤ s.most)
    (na : ∀ b ∈ s.gs.map (·.2) ++ s.here.map (·.c), b ≠ a ∧ b ≠ c) (nac : a ≠ c) (nh : s.h ≠ a ∧ s.h ≠ c) (nt : s.t ≠ a ∧ s.t ≠ c) : HPl (s.made f k a c w) := by
  have hused : (s.made f k a c w).used = s.used + k := by
    unfold HSt.used; rw [made_here hf, szs_app]; simp [szs]
  have gsnd : ∀ b ∈ (s.gsPut f a).map (·.2), b = a ∨ b ∈ s.gs.map (·.2) := fun b hb => by
    obtain ⟨y, hy, rfl⟩ := List.mem_map.mp hb
    rcases gsPut_mem hy with z | ⟨z, _⟩
    · rw [z]; exact .inl rfl
    · exact .inr (List.mem_map.mpr ⟨y, z, rfl⟩)
  have spl := List.nodup_append.mp x.sp
  have sub : ∀ b ∈ (s.made f k a c w).gs.map (·.2) ++ (s.made f k a c w).here.map (·.c), b = a ∨ b = c ∨ b ∈ s.gs.map (·.2) ++ s.here.map (·.c) := fun b hb => by
    rcases List.mem_append.mp hb with z | z
    · rcases gsnd b z with e | e
      · exact .inl e
      · exact .inr (.inr (List.mem_append_left _ e))
    · rw [made_here hf, List.map_append, List.mem_append] at z
      rcases z with z | z
      · exact .inr (.inr (List.mem_append_right _ z))
      · exact .inr (.inl (by simpa using z))
  refine ⟨?_, ?_, ?_, ?_, ?_, ?_, ?_, x.mo, ?_, ?_, ?_, ?_, ?_, x.s3, x.s4⟩
  · show ((s.gsPut f a).map (·.1)).Nodup
    rw [gsPut_keys]
    split
    · exact x.gn
    · rename_i h
      exact List.nodup_append.mpr ⟨x.gn, by simp, fun b hb c' hc e => h (by rw [List.mem_singleton] at hc; rw [← hc, ← e]; exact hb)⟩
  · intro r hr
    rcases List.mem_append.mp hr with z | z
    · obtain ⟨b, hb⟩ := x.gm r z
      by_cases e : r.f = f
      · exact ⟨a, by rw [e]; exact mem_gsPut s f a⟩
      · exact ⟨b, mem_gsPut_of hb e⟩
    · rw [List.mem_singleton] at z; subst z; exact ⟨a, mem_gsPut s f a⟩
  · have e1 : ((s.gsPut f a).map (·.1)).length = (s.gsPut f a).length := List.length_map _
    have := x.gle
    show (s.gsPut f a).length ≤ (s.rs ++ [_]).length
    rw [← e1, gsPut_keys, List.length_append]
    split
    · rw [List.length_map]; simp; omega
    · rw [List.length_append, List.length_map]; simp; omega
  · show ((s.rs ++ [(⟨f, s.fill f, List.replicate k .non, c, w⟩ : Rm)]).map fun r : Rm => (r.f, r.o)).Nodup
    rw [List.map_append]
    refine List.nodup_append.mpr ⟨x.kn, by simp, fun b hb c' hc e => ?_⟩
    obtain ⟨r, hr, rfl⟩ := List.mem_map.mp hb
    have hc2 : c' = (f, s.fill f) := by simpa using hc
    rw [hc2] at e
    exact new_key x f r hr ⟨congrArg Prod.fst e, congrArg Prod.snd e⟩
  · intro r hr
    rw [made_fill]
    rcases List.mem_append.mp hr with z | z
    · have := x.ro r z; omega
    · rw [List.mem_singleton] at z; subst z
      rw [if_pos rfl, List.length_replicate]
      show s.fill f + k ≤ s.fill f + k
      exact Nat.le_refl _
  · intro r hr
    rcases List.mem_append.mp hr with z | z
    · exact x.sz r z
    · rw [List.mem_singleton] at z; subst z
      rw [List.length_replicate]; exact ⟨k1, k6⟩
  · intro r hr
    rcases List.mem_append.mp hr with z | z
    · exact x.fl r z
    · rw [List.mem_singleton] at z; subst z; exact hl
  · rw [hused]; exact Nat.le_max_right _ _
  · have := x.tm
    show max s.top (s.used + k) ≤ s.most
    omega
  · show ((s.gsPut f a).map (·.2) ++ (s.made f k a c w).here.map (·.c)).Nodup
    rw [made_here hf, List.map_append]
    refine List.nodup_append.mpr ⟨?_, List.nodup_append.mpr ⟨spl.2.1, by simp, fun b hb c' hc e => ?_⟩, fun b hb c' hc e => ?_⟩
    · unfold HSt.gsPut
      split
      · have key : ∀ l : List (Nat × Addr), (l.map (·.1)).Nodup → (l.map (·.2)).Nodup → (∀ y ∈ l, y.2 ≠ a) → ((l.map fun x => if x.1 = f then (f, a) else x).map (·.2)).Nodup := by
          intro l
          induction l with
          | nil => intro _ _ _; simp
          | cons y l ih =>
            intro h1 h2 h3
            rw [List.map_cons, List.nodup_cons] at h1 h2
            rw [List.map_cons, List.map_cons, List.nodup_cons]
            refine ⟨fun z => ?_, ih h1.2 h2.2 fun q hq => h3 q (by simp [hq])⟩
            rw [List.map_map] at z
            obtain ⟨q, hq, e⟩ := List.mem_map.mp z
            have e' : (if q.1 = f then (f, a) else q).2 = (if y.1 = f then (f, a) else y).2 := e
            by_cases c1 : q.1 = f
            · by_cases c2 : y.1 = f
              · exact h1.1 (List.mem_map.mpr ⟨q, hq, by rw [c1, c2]⟩)
              · rw [if_pos c1, if_neg c2] at e'
                exact h3 y (by simp) e'.symm
            · by_cases c2 : y.1 = f
              · rw [if_neg c1, if_pos c2] at e'
                exact h3 q (by simp [hq]) e'
              · rw [if_neg c1, if_neg c2] at e'
                exact h2.1 (List.mem_map.mpr ⟨q, hq, e'⟩)
        exact key s.gs x.gn spl.1 fun y hy => (na y.2 (List.mem_append_left _ (List.mem_map.mpr ⟨y, hy, rfl⟩))).1
      · rw [List.map_append]
        refine List.nodup_append.mpr ⟨spl.1, by simp, fun b hb c' hc e => ?_⟩
        have hc2 : c' = a := by simpa using hc
        exact (na b (List.mem_append_left _ hb)).1 (e.trans hc2)
    · have hc2 : c' = c := by simpa using hc
      exact (na b (List.mem_append_right _ hb)).2 (e.trans hc2)
    · rcases gsnd b hb with e1 | e1
      · rcases List.mem_append.mp hc with z | z
        · exact (na c' (List.mem_append_right _ z)).1 (e.symm.trans e1)
        · have hc2 : c' = c := by simpa using z
          exact nac (e1.symm.trans (e.trans hc2))
      · rcases List.mem_append.mp hc with z | z
        · exact spl.2.2 b e1 c' z e
        · have hc2 : c' = c := by simpa using z
          exact (na b (List.mem_append_left _ e1)).2 (e.trans hc2)
  · intro z
    rcases sub _ z with e | e | e
    · exact nh.1 e
    · exact nh.2 e
    · exact x.s1 e
  · intro z
    rcases sub _ z with e | e | e
    · exact nt.1 e
    · exact nt.2 e
    · exact x.s2 e

end Lw
namespace Lw
open PySem PySem.Spec L2 FG
open PyProof.Rows hiding St
theorem VOk.mono {H : Hp} {l m : List Rm} {v : V} (x : VOk H l v) (h : ∀ r ∈ l, r ∈ m) : VOk H m v := by
  rcases x with e | e | ⟨r, hr, q⟩
  · exact .inl e
  · exact .inr (.inl e)
  · exact .inr (.inr ⟨r, h r hr, q⟩)
theorem frF_top {fs : List (Str × V)} {h t : Addr} (ff : FrF fs h t) (v : V) : FrF (putF "top" v fs) h t := by
  refine ⟨by rw [lookup_putF, if_neg (by decide +kernel)]; exact ff.hh, by rw [lookup_putF, if_neg (by decide +kernel)]; exact ff.tt, fun m hm => ?_⟩
  have z : (frMeths.all fun m => decide (¬ m = ("top" : Str))) = true := by decide +kernel
  rw [lookup_putF, if_neg (of_decide_eq_true (List.all_eq_true.mp z m hm))]
  exact ff.no m hm
theorem putF_len {f : Str} {v x : V} : ∀ {fs : List (Str × V)}, fs.lookup f = some x → (putF f v fs).length = fs.length
  | [], h => by cases h
  | (g, y) :: r, h => by
    unfold putF
    by_cases e : g = f
    · rw [if_pos e]; rfl
    · rw [if_neg e]
      have h2 : r.lookup f = some x := by
        have e2 : (f == g) = false := by simpa using fun z => e z.symm
        simpa [List.lookup, e2] using h
      show (putF f v r).length + 1 = r.length + 1
      rw [putF_len h2]
theorem rep_flat (k : Nat) : (List.replicate k [V.non]).flatten = List.replicate k V.non := by
  induction k with
  | zero => rfl
  | succ k ih => rw [List.replicate_succ, List.flatten_cons, ih, List.replicate_succ]; rfl
theorem HoAt.made {C : Addr} {H H' : Hp} {s : HSt} {f k : Nat} {a c w dx : Addr} {fs : List (Str × V)} (x : HoAt C H s) (ff : FrF fs s.h s.t) (hf : HoF fs s) (hup : s.ts[f]? = some none) (k1 : 1 ≤ k) (k6 : k ≤ 6) (hu : s.used + k ≤ s.most)
    (ha : H a = none) (hc : H c = none) (nac : a ≠ c) (kp : Kp [s.p, s.gd, s.fd, s.sd, s.hd] H H') (ep : H' s.p = some (.ins C dx (putF "top" (.int ((max s.top (s.used + k) : Nat) : Int)) fs)))
    (eg : H' s.gd = some (.dK (putK s.gdL (.inl (f : Int)) (.ref a)))) (ef : H' s.fd = some (.dK (putK s.fdL (.inl (f : Int)) (.int ((s.fill f : Int) + k))))) (es : H' s.sd = some (.dT (putK s.sdL [.inl (f : Int), .inl (s.fill f : Int)] (.int (k : Int)))))
    (eh : H' s.hd = some (.dT (putK (hdL s.here) [.inl (f : Int), .inl (s.fill f : Int)] (.ref c)))) (ea : H' a = some (.lst (((s.giv f).map fun r => .ref r.w) ++ [.ref w]))) (ec : H' c = some (.lst (List.replicate k .non)))
    (ew : H' w = some (.tup [.int (f : Int), .int (s.fill f : Int)])) : HoAt C H' (s.made f k a c w) := by
  obtain ⟨dx0, fs0, e0, _, _⟩ := x.ob
  have wl := x.wf.len
  have hl : f < s.hs.length := by have := (List.getElem?_eq_some_iff.mp hup).1; omega
  have notin : ∀ {b o}, H b = some o → (∀ C d g, o ≠ .ins C d g) → (∀ q, o ≠ .dK q) → (∀ q, o ≠ .dT q) → H' b = some o := fun {b o} eb h1 h2 h3 => kp b o eb (by
    intro z
    simp only [List.mem_cons, List.not_mem_nil, or_false] at z
    rcases z with z | z | z | z | z
    · rw [z, e0] at eb; cases eb; exact h1 _ _ _ rfl
    · rw [z, x.gd] at eb; cases eb; exact h2 _ rfl
    · rw [z, x.fd] at eb; cases eb; exact h2 _ rfl
    · rw [z, x.sd] at eb; cases eb; exact h3 _ rfl
    · rw [z, x.hd] at eb; cases eb; exact h3 _ rfl)
  have lk : ∀ {b xs}, H b = some (.lst xs) → H' b = some (.lst xs) := fun eb => notin eb (fun _ _ _ z => by cases z) (fun _ z => by cases z) (fun _ z => by cases z)
  have tk : ∀ b xs, H b = some (.tup xs) → H' b = some (.tup xs) := fun b xs eb => notin eb (fun _ _ _ z => by cases z) (fun _ z => by cases z) (fun _ z => by cases z)
  have na : ∀ b ∈ s.gs.map (·.2) ++ s.here.map (·.c), b ≠ a ∧ b ≠ c := fun b hb => by
    have hs : ∃ o, H b = some o := by
      rcases List.mem_append.mp hb with z | z
      · obtain ⟨y, hy, rfl⟩ := List.mem_map.mp z; exact ⟨_, x.gl y hy⟩
      · obtain ⟨y, hy, rfl⟩ := List.mem_map.mp z; exact ⟨_, x.cl y hy⟩
    obtain ⟨o, eo⟩ := hs
    exact ⟨ne_of_none eo ha, ne_of_none eo hc⟩
  refine ⟨⟨dx, _, ep, frF_top ff _, ?_⟩, lk x.lh, lk x.lt, x.ne, x.wf, ?_, ?_, ?_, ?_, ?_, ?_, ?_, ?_, x.pl.made hup hl k1 k6 hu na nac ⟨ne_of_none x.lh ha, ne_of_none x.lh hc⟩ ⟨ne_of_none x.lt ha, ne_of_none x.lt hc⟩⟩
  · refine ⟨?_, ?_, ?_, ?_, ?_, ?_, by rw [putF_len hf.top]; exact hf.len⟩
    · rw [lookup_putF, if_neg (by decide +kernel)]; exact hf.most
    · rw [lookup_putF, if_pos rfl]; rfl
    · rw [lookup_putF, if_neg (by decide +kernel)]; exact hf.gd
    · rw [lookup_putF, if_neg (by decide +kernel)]; exact hf.fd
    · rw [lookup_putF, if_neg (by decide +kernel)]; exact hf.sd
    · rw [lookup_putF, if_neg (by decide +kernel)]; exact hf.hd
  · rw [show (s.made f k a c w).gd = s.gd from rfl, eg, putK_gd]; rfl
  · rw [show (s.made f k a c w).fd = s.fd from rfl, ef, putK_fd f k a c w]
  · rw [show (s.made f k a c w).sd = s.sd from rfl, es, putK_sd x.pl f k a c w]
  · rw [show (s.made f k a c w).hd = s.hd from rfl, eh, putK_hd x.pl f k a c w hup]
  · intro y hy
    rw [made_giv]
    rcases gsPut_mem hy with z | ⟨z, n⟩
    · rw [z, if_pos rfl, List.map_append]; exact ea
    · rw [if_neg n, List.append_nil]; exact lk (x.gl y z)
  · intro r hr
    rw [made_here hup] at hr
    rcases List.mem_append.mp hr with z | z
    · exact lk (x.cl r z)
    · rw [List.mem_singleton] at z; subst z; exact ec
  · intro r hr
    rcases List.mem_append.mp hr with z | z
    · exact tk _ _ (x.wl r z)
    · rw [List.mem_singleton] at z; subst z; exact ew
  · intro r hr v hv
    rw [made_here hup] at hr
    rcases List.mem_append.mp hr with z | z
    · exact ((x.vs r z v hv).kp tk).mono fun q hq => List.mem_append_left _ hq
    · rw [List.mem_singleton] at z; subst z
      exact .inl (List.eq_of_mem_replicate hv)
def spMake (K : PySem.W.Frag) : Sp := fun vs H Q E => ∃ (s : HSt) (f k : Nat), vs = [.ref s.p, nint f, nint k] ∧ HoAt (CH K) H s ∧ s.ts[f]? = some none ∧ 1 ≤ k ∧ k ≤ 6 ∧ s.rs.length < 1000000 ∧
  (s.used + k ≤ s.most → ∀ a c w H', H a = none → H c = none → H w = none → Kp [s.p, s.gd, s.fd, s.sd, s.hd] H H' → HoAt (CH K) H' (s.made f k a c w) → Q (.ref w) H') ∧
  (s.most < s.used + k → ∀ d H', Kp [] H H' → H' d = some (.xd [("spare", .int ((s.most : Int) - s.used)), ("need", nint k)]) → E (.ref (He.ga K "Full")) (some d) H')
section
variable {P : Program} {w : World} {K : PySem.W.Frag} {mg : Str → Option Value} {base : Heap}
theorem ok_make (T : Tx K mg) {fd : FuncData} {f : Addr} (F : Fun K "make" "House.make" s_House_make f fd) (m_need_standing : Met P w K mg base 4 (CH K) "need_standing" (spStd (CH K))) (c_is_whole : Cal P w K mg base 2 "is_whole" spWhole)
    (m_left : Met P w K mg base 2 (CH K) "left" (spLeft K)) (m_used : Met P w K mg base 1 (CH K) "used" (spUsed K)) (r_NoNumber : Rai P w K mg base "NoNumber" (He.ga K "NoNumber") ["found"]) (r_Full : Rai P w K mg base "Full" (He.ga K "Full") ["need", "spare"]) :
    FnG P w K mg base 5 f fd ["self", "frame", "size"] (spMake K) := by
  obtain ⟨tM, hg_MOST_SIZE⟩ := T.i_MOST_SIZE
  refine FnG.of F sc_House_make (fun vs H Q E h => ?_) (fun cdv A outer s H vs Q E hr h => ?_)
  · obtain ⟨s, f, k, rfl, _⟩ := h; rfl
  · obtain ⟨s, f, k, rfl, ho, hup, k1, k6, hrs, q1, q2⟩ := h
    obtain ⟨dx, fs, e, ff, hf⟩ := ho.ob
    have pl := ho.pl
    refine ⟨_, pss_cons (ps_expr (gm m_need_standing (hr.mono (by decide)) tkE (pv 0) (pa_cons (pv 1) (pa_nil))))
      (pss_cons (ps_if (pt_not (pt_val (gc c_is_whole (hr.mono (by decide)) tkE (pa_cons (pv 2) (pa_cons (pe_int) (pa_cons (pe_glob (v := .int 6) rfl hg_MOST_SIZE ⟨_, rfl⟩) (pa_nil))))))) (pss_one (ps_rais r_NoNumber (hr.mono (by decide)) tkE (pa_cons (pv 2) (pa_nil)))) (pss_nil))
      (pss_cons (ps_if (pt_cmpR op_gt (pv 2) (gm0 m_left (hr.mono (by decide)) tkE (pv 0)) (by first | exact nomark _ | rfl)) (pss_one (ps_rais r_Full (hr.mono (by decide)) tkE (pa_cons (pv 2) (pa_cons (gm0 m_left (hr.mono (by decide)) tkE (pv 0)) (pa_nil))))) (pss_nil))
      (pss_cons (ps_set (i := 3) sc_House_make.nd rfl (by first | exact Or.inl rfl | exact Or.inr rfl) (pe_tup (pa_cons (pv 1) (pa_cons (pe_dget2 hr.hu (kfld K (pv 0)) (pv 1) (pe_int) ⟨rfl, rfl, rfl, rfl⟩) (pa_nil)))))
      (pss_cons (ps_dput hr.hu (kfld K (pv 0)) (pv 1) (pe_op op_cat (pe_dget2 hr.hu (kfld K (pv 0)) (pv 1) (pe_lst (pa_nil)) ⟨rfl, rfl, rfl, rfl⟩) (pe_lst (pa_cons (pv 3) (pa_nil)))) rfl)
      (pss_cons (ps_dput hr.hu (kfld K (pv 0)) (pv 1) (pe_op op_add (pe_ix (kixT K) (pv 3) (pe_int) (fun _ _ => rfl)) (pv 2)) rfl)
      (pss_cons (ps_dput hr.hu (kfld K (pv 0)) (pv 3) (pv 2) rfl)
      (pss_cons (ps_dput hr.hu (kfld K (pv 0)) (pv 3) (pe_op op_rep (pe_lst (pa_cons (pe_non) (pa_nil))) (pv 2)) rfl)
      (pss_cons (ksFld K (pv 0) (pe_callB (call_max2 rfl) (by rfl) T.z_max (by decide +kernel) (pa_cons (kfld K (pv 0)) (pa_cons (gm0 m_used (hr.mono (by decide)) tkE (pv 0)) (pa_nil)))))
      (pss_one (ps_ret (pv 3))))))))))), ?_⟩
    refine ⟨_, rfl, s.p, dx, fs, rfl, e, ff.no _ (by decide +kernel), _, rfl, s.p, s.h, s.t, s.hs, s.ts, f, rfl, ho.fr, hup, ?_⟩
    refine ⟨_, rfl, (k : Int), 1, 6, rfl, _, rfl, ?_⟩
    have z : decide ((1 : Int) ≤ (k : Int) ∧ (k : Int) ≤ 6) = true := decide_eq_true ⟨by omega, by omega⟩
    rw [z]
    refine iteF ⟨_, rfl, _, rfl, s.p, dx, fs, rfl, e, ff.no _ (by decide +kernel), s, rfl, ho, fun H1 n1 => ⟨_, _, rfl, rfl, _, rfl, ?_⟩⟩
    have ho1 := ho.kp0 n1
    have e1 := n1 _ _ e (by simp)
    by_cases hfull : s.most < s.used + k
    · rw [decide_eq_true (by omega : (s.most : Int) - s.used < (k : Int))]
      refine iteT ⟨_, rfl, _, rfl, s.p, dx, fs, rfl, e1, ff.no _ (by decide +kernel), s, rfl, ho1, fun H2 n2 => ⟨rfl, (by show 2 ≤ 10; decide), fun d hd => q2 hfull d _ ((n1.trans n2).new hd) upd_same⟩⟩
    rw [decide_eq_false (by omega : ¬ (s.most : Int) - s.used < (k : Int))]
    have hu : s.used + k ≤ s.most := by omega
    -- way = (frame, self.filled.get(frame, 0))
    obtain ⟨o, hdg, eo⟩ : ∃ o, DGet H1 s.fd (nint f) o ∧ o.getD (.int 0) = .int (s.fill f : Int) := by
      refine ⟨_, DGet.k (k := .inl (f : Int)) ho1.fd, ?_⟩
      by_cases hg : f ∈ s.gs.map (·.1)
      · obtain ⟨⟨f', a⟩, hx, rfl⟩ := List.mem_map.mp hg
        rw [fv_in pl hx]; rfl
      · rw [fv_no hg, fill_no pl hg]; rfl
    refine iteF ⟨_, rfl, _, rfl, s.p, CH K, dx, fs, _, rfl, e1, T.c_House, T.n_House_filled, hf.fd, s.fd, rfl, .inl ⟨_, .inl ho1.fd⟩, _, rfl, o, hdg, ?_⟩
    rw [eo]
    refine ⟨(by show 2 ≤ sizeLine; decide), fun w hw => ?_⟩
    have n2 := n1.new (o := .tup [nint f, .int (s.fill f : Int)]) hw
    have ew2 : L2.upd H1 w (.tup [nint f, .int (s.fill f : Int)]) w = some (.tup [.int (f : Int), .int (s.fill f : Int)]) := upd_same
    have hwH : H w = none := n1.free hw
    generalize L2.upd H1 w (.tup [nint f, .int (s.fill f : Int)]) = H2 at *
    have ho2 := ho.kp0 n2
    have e2 := n2 _ _ e (by simp)
    -- self.given[frame] = self.given.get(frame, []) + [way]
    refine ⟨_, rfl, s.p, CH K, dx, fs, _, rfl, e2, T.c_House, T.n_House_given, hf.gd, s.gd, rfl, .inl ⟨_, .inl ho2.gd⟩, _, rfl, by decide, fun l0 hl0 => ?_⟩
    have n3 := n2.new (o := .lst []) hl0
    have e03 : L2.upd H2 l0 (.lst []) l0 = some (.lst []) := upd_same
    have ew3 : L2.upd H2 l0 (.lst []) w = some (.tup [.int (f : Int), .int (s.fill f : Int)]) := (upd_ne (ne_of_none ew2 hl0)).trans ew2
    generalize L2.upd H2 l0 (.lst []) = H3 at *
    have ho3 := ho.kp0 n3
    have e3 := n3 _ _ e (by simp)
    obtain ⟨o3, lx, hdg3, eo3, elx⟩ : ∃ o lx, DGet H3 s.gd (nint f) o ∧ o.getD (.ref l0) = .ref lx ∧ H3 lx = some (.lst ((s.giv f).map fun r => .ref r.w)) := by
      by_cases hg : f ∈ s.gs.map (·.1)
      · obtain ⟨⟨f', a⟩, hx, rfl⟩ := List.mem_map.mp hg
        exact ⟨_, a, DGet.k (k := .inl (f' : Int)) ho3.gd, by rw [gv_in pl hx]; rfl, ho3.gl _ hx⟩
      · exact ⟨_, l0, DGet.k (k := .inl (f : Int)) ho3.gd, by rw [gv_no hg]; rfl, by rw [giv_no pl hg]; exact e03⟩
    refine ⟨o3, hdg3, ?_⟩
    rw [eo3]
    refine ⟨_, rfl, (by show 1 ≤ sizeLine; decide), fun l1 hl1 => ?_⟩
    have n4 := n3.new (o := .lst [.ref w]) hl1
    have e14 : L2.upd H3 l1 (.lst [.ref w]) l1 = some (.lst [.ref w]) := upd_same
    have elx4 : L2.upd H3 l1 (.lst [.ref w]) lx = _ := (upd_ne (ne_of_none elx hl1)).trans elx
    have ew4 : L2.upd H3 l1 (.lst [.ref w]) w = _ := (upd_ne (ne_of_none ew3 hl1)).trans ew3
    generalize L2.upd H3 l1 (.lst [.ref w]) = H4 at *
    have hgl : (s.giv f).length ≤ s.rs.length := List.length_filter_le _ _
    have big : (1000010 : Nat) ≤ sizeLine := by decide
    refine ⟨lx, l1, _, _, rfl, rfl, elx4, e14, (by rw [List.length_map]; show _ + 1 ≤ _; omega), fun a ha => ?_⟩
    have n5 := n4.new (o := .lst (((s.giv f).map fun r => .ref r.w) ++ [.ref w])) ha
    have ea5 : L2.upd H4 a (.lst (((s.giv f).map fun r => .ref r.w) ++ [.ref w])) a = some (.lst (((s.giv f).map fun r => .ref r.w) ++ [.ref w])) := upd_same
    have ew5 : L2.upd H4 a (.lst (((s.giv f).map fun r => .ref r.w) ++ [.ref w])) w = _ := (upd_ne (ne_of_none ew4 ha)).trans ew4
    have haH : H a = none := n4.free ha
    generalize L2.upd H4 a (.lst (((s.giv f).map fun r => .ref r.w) ++ [.ref w])) = H5 at *
    have ho5 := ho.kp0 n5
    have e5 := n5 _ _ e (by simp)
    have gle := pl.gle
    refine ⟨_, rfl, s.p, CH K, dx, fs, _, rfl, e5, T.c_House, T.n_House_given, hf.gd, _, rfl, s.gd, _, rfl, DPut.k (k := .inl (f : Int)) ho5.gd (by unfold HSt.gdL; rw [List.length_map]; omega), ?_⟩
    -- the tables, one behind the other
    have pg : s.p ≠ s.gd := ne_of e ho.gd (fun z => by cases z)
    have pf : s.p ≠ s.fd := ne_of e ho.fd (fun z => by cases z)
    have ps : s.p ≠ s.sd := ne_of e ho.sd (fun z => by cases z)
    have ph : s.p ≠ s.hd := ne_of e ho.hd (fun z => by cases z)
    have gs' : s.gd ≠ s.sd := ne_of ho.gd ho.sd (fun z => by cases z)
    have gh' : s.gd ≠ s.hd := ne_of ho.gd ho.hd (fun z => by cases z)
    have fs' : s.fd ≠ s.sd := ne_of ho.fd ho.sd (fun z => by cases z)
    have fh' : s.fd ≠ s.hd := ne_of ho.fd ho.hd (fun z => by cases z)
    have gf' := pl.s3
    have sh' := pl.s4
    have wg : w ≠ s.gd := (ne_of_none ho.gd hwH).symm
    have wf' : w ≠ s.fd := (ne_of_none ho.fd hwH).symm
    have ws' : w ≠ s.sd := (ne_of_none ho.sd hwH).symm
    have wh' : w ≠ s.hd := (ne_of_none ho.hd hwH).symm
    have wp' : w ≠ s.p := (ne_of_none e hwH).symm
    have ag : a ≠ s.gd := (ne_of_none ho.gd haH).symm
    have af : a ≠ s.fd := (ne_of_none ho.fd haH).symm
    have as' : a ≠ s.sd := (ne_of_none ho.sd haH).symm
    have ah' : a ≠ s.hd := (ne_of_none ho.hd haH).symm
    have ap' : a ≠ s.p := (ne_of_none e haH).symm
    obtain ⟨H6, h6⟩ : ∃ H6, H6 = L2.upd H5 s.gd (.dK (putK s.gdL (.inl (f : Int)) (.ref a))) := ⟨_, rfl⟩
    rw [← h6]
    have r6 : ∀ b, b ≠ s.gd → H6 b = H5 b := fun b hb => by rw [h6]; exact upd_ne hb
    have eg6 : H6 s.gd = some (.dK (putK s.gdL (.inl (f : Int)) (.ref a))) := by rw [h6]; exact upd_same
    refine ⟨_, rfl, w, _, _, _, rfl, rfl, SqT.of ((r6 w wg).trans ew5), atI_nat (j := 1) rfl, _, rfl, _, _, rfl, rfl, _, rfl, s.p, CH K, dx, fs, _, rfl, (r6 _ pg).trans e5, T.c_House, T.n_House_filled, hf.fd, _, rfl, s.fd, _, rfl, DPut.k (k := .inl (f : Int)) ((r6 _ gf'.symm).trans ho5.fd) (by unfold HSt.fdL; rw [List.length_map]; omega), ?_⟩
    obtain ⟨H7, h7⟩ : ∃ H7, H7 = L2.upd H6 s.fd (.dK (putK s.fdL (.inl (f : Int)) (.int ((s.fill f : Int) + (k : Int))))) := ⟨_, rfl⟩
    rw [← h7]
    have r7 : ∀ b, b ≠ s.fd → H7 b = H6 b := fun b hb => by rw [h7]; exact upd_ne hb
    have ef7 : H7 s.fd = some (.dK (putK s.fdL (.inl (f : Int)) (.int ((s.fill f : Int) + (k : Int))))) := by rw [h7]; exact upd_same
    have ew7 : H7 w = _ := (r7 w wf').trans ((r6 w wg).trans ew5)
    refine ⟨_, rfl, _, rfl, s.p, CH K, dx, fs, _, rfl, (r7 _ pf).trans ((r6 _ pg).trans e5), T.c_House, T.n_House_sizes, hf.sd, _, rfl, s.sd, _, rfl, DPut.t (k := [.inl (f : Int), .inl (s.fill f : Int)]) ((r7 _ fs'.symm).trans ((r6 _ gs'.symm).trans ho5.sd)) ew7 (by unfold HSt.sdL; rw [List.length_map]; omega), ?_⟩
    obtain ⟨H8, h8⟩ : ∃ H8, H8 = L2.upd H7 s.sd (.dT (putK s.sdL [.inl (f : Int), .inl (s.fill f : Int)] (.int (k : Int)))) := ⟨_, rfl⟩
    have eq8 : L2.upd H7 s.sd (.dT (putK s.sdL [.inl (f : Int), .inl (s.fill f : Int)] (nint k))) = H8 := h8.symm
    rw [eq8]
    have r8 : ∀ b, b ≠ s.sd → H8 b = H7 b := fun b hb => by rw [h8]; exact upd_ne hb
    have es8 : H8 s.sd = some (.dT (putK s.sdL [.inl (f : Int), .inl (s.fill f : Int)] (.int (k : Int)))) := by rw [h8]; exact upd_same
    have ep8 : H8 s.p = some (.ins (CH K) dx fs) := (r8 _ ps).trans ((r7 _ pf).trans ((r6 _ pg).trans e5))
    have ew8 : H8 w = _ := (r8 w ws').trans ew7
    have eh8 : H8 s.hd = some (.dT (hdL s.here)) := (r8 _ sh'.symm).trans ((r7 _ fh'.symm).trans ((r6 _ gh'.symm).trans ho5.hd))
    -- self.held[way] = [None] * size
    refine ⟨(by show 1 ≤ sizeLine; decide), fun l2 hl2 => ⟨_, rfl, l2, (k : Int), [.non], rfl, rfl, upd_same, by omega, by omega, (by rw [Int.toNat_natCast]; show 1 * k ≤ _; omega), fun c hc => ?_⟩⟩
    have el2 : ∀ b o, H8 b = some o → b ≠ l2 := fun b o eb => ne_of_none eb hl2
    rw [Int.toNat_natCast, rep_flat]
    have r9 : ∀ b o, H8 b = some o → L2.upd (L2.upd H8 l2 (.lst [.non])) c (.lst (List.replicate k .non)) b = some o := fun b o eb =>
      (upd_ne (ne_of_none ((upd_ne (el2 b o eb)).trans eb) hc)).trans ((upd_ne (el2 b o eb)).trans eb)
    have ec9 : L2.upd (L2.upd H8 l2 (.lst [.non])) c (.lst (List.replicate k .non)) c = some (.lst (List.replicate k .non)) := upd_same
    have hc8 : H8 c = none := by
      cases q : H8 c with
      | none => rfl
      | some o => rw [upd_ne (el2 c o q)] at hc; rw [q] at hc; cases hc
    generalize L2.upd (L2.upd H8 l2 (.lst [.non])) c (.lst (List.replicate k .non)) = H10 at *
    have hc5 : H5 c = none := by
      by_cases c1 : c = s.gd
      · rw [c1] at hc8; rw [r8 _ gs', r7 _ gf', eg6] at hc8; cases hc8
      by_cases c2 : c = s.fd
      · rw [c2] at hc8; rw [r8 _ fs', ef7] at hc8; cases hc8
      by_cases c3 : c = s.sd
      · rw [c3, es8] at hc8; cases hc8
      rw [r8 _ c3, r7 _ c2, r6 _ c1] at hc8; exact hc8
    have hcH : H c = none := n5.free hc5
    have nac : a ≠ c := ne_of_none ea5 hc5
    have kp8 : ∀ b o, H b = some o → b ∉ [s.p, s.gd, s.fd, s.sd, s.hd] → H8 b = some o := fun b o eb hb => by
      simp only [List.mem_cons, List.not_mem_nil, or_false, not_or] at hb
      rw [r8 _ hb.2.2.2.1, r7 _ hb.2.2.1, r6 _ hb.2.1]
      exact n5 b o eb (by simp)
    refine ⟨_, rfl, s.p, CH K, dx, fs, _, rfl, r9 _ _ ep8, T.c_House, T.n_House_held, hf.hd, _, rfl, s.hd, _, rfl, DPut.t (k := [.inl (f : Int), .inl (s.fill f : Int)]) (r9 _ _ eh8) (r9 _ _ ew8) (by unfold hdL; rw [List.length_map]; have := List.length_filter_le s.up s.rs; show (s.rs.filter s.up).length < _; omega), ?_⟩
    obtain ⟨H11, h11⟩ : ∃ H11, H11 = L2.upd H10 s.hd (.dT (putK (hdL s.here) [.inl (f : Int), .inl (s.fill f : Int)] (.ref c))) := ⟨_, rfl⟩
    rw [← h11]
    have r11 : ∀ b, b ≠ s.hd → H11 b = H10 b := fun b hb => by rw [h11]; exact upd_ne hb
    have eh11 : H11 s.hd = some (.dT (putK (hdL s.here) [.inl (f : Int), .inl (s.fill f : Int)] (.ref c))) := by rw [h11]; exact upd_same
    have ch' : c ≠ s.hd := (ne_of_none ho.hd hcH).symm
    have cp' : c ≠ s.p := (ne_of_none e hcH).symm
    have ep11 : H11 s.p = some (.ins (CH K) dx fs) := (r11 _ ph).trans (r9 _ _ ep8)
    have ec11 : H11 c = some (.lst (List.replicate k .non)) := (r11 _ ch').trans ec9
    have kp11 : ∀ b o, H b = some o → b ∉ [s.p, s.gd, s.fd, s.sd, s.hd] → H11 b = some o := fun b o eb hb => by
      have hb2 : b ≠ s.hd := fun z => hb (by rw [z]; simp)
      exact (r11 _ hb2).trans (r9 _ _ (kp8 b o eb hb))
    -- self.top = max(self.top, self.used())
    have hused : szs (s.made f k a c w).here = s.used + k := by
      rw [made_here hup, szs_app]; simp [szs, HSt.used]
    have ua : UsedAt (CH K) H11 s.p s.hd (s.made f k a c w).here := by
      refine ⟨⟨dx, fs, ep11, hf.hd⟩, by rw [eh11, putK_hd pl f k a c w hup], fun r hr2 => ?_, ?_⟩
      · rw [made_here hup] at hr2
        rcases List.mem_append.mp hr2 with z | z
        · have er := ho.cl r z
          refine kp11 _ _ er fun m => ?_
          simp only [List.mem_cons, List.not_mem_nil, or_false] at m
          rcases m with m | m | m | m | m
          · rw [m, e] at er; cases er
          · rw [m, ho.gd] at er; cases er
          · rw [m, ho.fd] at er; cases er
          · rw [m, ho.sd] at er; cases er
          · rw [m, ho.hd] at er; cases er
        · rw [List.mem_singleton] at z; subst z; exact ec11
      · obtain ⟨_, _, _, h4⟩ := ho.usedAt
        have h1 : s.here.length ≤ s.used := szs_len fun r hr2 => (pl.sz r (List.mem_filter.mp hr2).1).1
        have := pl.tp; have := pl.tm; have := pl.mo
        rw [made_here hup, List.length_append]; simp; omega
    refine ⟨_, rfl, s.p, CH K, dx, fs, _, rfl, ep11, T.c_House, T.n_House_top, hf.top, _, rfl, s.p, dx, fs, rfl, ep11, ff.no _ (by decide +kernel), s.p, s.hd, _, rfl, ua, fun H12 n12 => ⟨_, _, rfl, ?_⟩⟩
    have emax : (if (szs (s.made f k a c w).here : Int) > (s.top : Int) then (szs (s.made f k a c w).here : Int) else (s.top : Int)) = ((max s.top (s.used + k) : Nat) : Int) := by
      rw [hused]; split <;> omega
    rw [emax]
    have r12 : ∀ b o, H11 b = some o → H12 b = some o := fun b o eb => n12 b o eb (by simp)
    refine ⟨_, rfl, s.p, CH K, dx, fs, rfl, r12 _ _ ep11, T.c_House, T.n_House_top, (by have := hf.len; omega), ?_⟩
    obtain ⟨H13, h13⟩ : ∃ H13, H13 = L2.upd H12 s.p (.ins (CH K) dx (putF "top" (.int ((max s.top (s.used + k) : Nat) : Int)) fs)) := ⟨_, rfl⟩
    rw [← h13]
    have r13 : ∀ b, b ≠ s.p → H13 b = H12 b := fun b hb => by rw [h13]; exact upd_ne hb
    have ew13 : H13 w = some (.tup [.int (f : Int), .int (s.fill f : Int)]) := (r13 _ wp').trans (r12 _ _ ((r11 _ wh').trans (r9 _ _ ew8)))
    refine ⟨_, rfl, q1 hu a c w H13 haH hcH hwH (fun b o eb hb => ?_) (ho.made (dx := dx) (fs := fs) ff hf hup k1 k6 hu haH hcH nac (fun b o eb hb => ?_) (by rw [h13]; exact upd_same) ?_ ?_ ?_ ?_ ?_ ((r13 _ cp').trans (r12 _ _ ec11)) ew13)⟩
    · have hb2 : b ≠ s.p := fun z => hb (by rw [z]; simp)
      exact (r13 _ hb2).trans (r12 _ _ (kp11 b o eb hb))
    · have hb2 : b ≠ s.p := fun z => hb (by rw [z]; simp)
      exact (r13 _ hb2).trans (r12 _ _ (kp11 b o eb hb))
    · exact (r13 _ pg.symm).trans (r12 _ _ ((r11 _ gh').trans (r9 _ _ ((r8 _ gs').trans ((r7 _ gf').trans eg6)))))
    · exact (r13 _ pf.symm).trans (r12 _ _ ((r11 _ fh').trans (r9 _ _ ((r8 _ fs').trans ef7))))
    · exact (r13 _ ps.symm).trans (r12 _ _ ((r11 _ sh').trans (r9 _ _ es8)))
    · exact (r13 _ ph.symm).trans (r12 _ _ eh11)
    · exact (r13 _ ap').trans (r12 _ _ ((r11 _ ah').trans (r9 _ _ ((r8 _ as').trans ((r7 _ af).trans ((r6 _ ag).trans ea5))))))
end

end Lw
namespace Lw
open PySem PySem.Spec L2 FG
open PyProof.Rows hiding St
/-! ### a cell put -/
def setR (f o k : Nat) (v : V) (x : Rm) : Rm := if x.f = f ∧ x.o = o then { x with cells := x.cells.set k v } else x
def HSt.setc (s : HSt) (f o k : Nat) (v : V) : HSt := { s with rs := s.rs.map (setR f o k v) }
theorem setR_eq (f o k : Nat) (v : V) (x : Rm) : (setR f o k v x).f = x.f ∧ (setR f o k v x).o = x.o ∧ (setR f o k v x).c = x.c ∧ (setR f o k v x).w = x.w ∧ (setR f o k v x).cells.length = x.cells.length := by
  unfold setR
  split
  · exact ⟨rfl, rfl, rfl, rfl, List.length_set⟩
  · exact ⟨rfl, rfl, rfl, rfl, rfl⟩
theorem szs_set (f o k : Nat) (v : V) (l : List Rm) : szs (l.map (setR f o k v)) = szs l := by
  unfold szs
  rw [List.map_map]
  congr 1
  exact List.map_congr_left fun x _ => (setR_eq f o k v x).2.2.2.2
theorem set_giv (s : HSt) (f o k : Nat) (v : V) (g : Nat) : (s.setc f o k v).giv g = (s.giv g).map (setR f o k v) := by
  unfold HSt.giv HSt.setc
  rw [List.filter_map]
  congr 1
  refine List.filter_congr fun x _ => ?_
  show decide ((setR f o k v x).f = g) = decide (x.f = g)
  rw [(setR_eq f o k v x).1]
theorem set_here (s : HSt) (f o k : Nat) (v : V) : (s.setc f o k v).here = s.here.map (setR f o k v) := by
  unfold HSt.here HSt.setc
  rw [List.filter_map]
  congr 1
  refine List.filter_congr fun x _ => ?_
  show decide (s.ts[(setR f o k v x).f]? = some none) = decide (s.ts[x.f]? = some none)
  rw [(setR_eq f o k v x).1]
theorem set_fill (s : HSt) (f o k : Nat) (v : V) (g : Nat) : (s.setc f o k v).fill g = s.fill g := by
  unfold HSt.fill; rw [set_giv, szs_set]
theorem set_used (s : HSt) (f o k : Nat) (v : V) : (s.setc f o k v).used = s.used := by
  unfold HSt.used; rw [set_here, szs_set]
theorem map_set {β : Type} (g : Rm → β) (f o k : Nat) (v : V) (h : ∀ x, g (setR f o k v x) = g x) (l : List Rm) : (l.map (setR f o k v)).map g = l.map g := by
  rw [List.map_map]; exact List.map_congr_left fun x _ => h x
theorem nodup_ne {α β : Type} {g : α → β} {l : List α} (h : (l.map g).Nodup) {x y : α} (hx : x ∈ l) (hy : y ∈ l) (n : x ≠ y) : g x ≠ g y := by
  induction l with
  | nil => cases hx
  | cons a l ih =>
    rw [List.map_cons, List.nodup_cons] at h
    rcases List.mem_cons.mp hx with z1 | z1
    · rcases List.mem_cons.mp hy with z2 | z2
      · exact absurd (z1.trans z2.symm) n
      · rw [z1]; exact fun e => h.1 (List.mem_map.mpr ⟨y, z2, e.symm⟩)
    · rcases List.mem_cons.mp hy with z2 | z2
      · rw [z2]; exact fun e => h.1 (List.mem_map.mpr ⟨x, z1, e⟩)
      · exact ih h.2 z1 z2
theorem set_gs (s : HSt) (f o k : Nat) (v : V) : (s.setc f o k v).gs.map (·.2) ++ (s.setc f o k v).here.map (·.c) = s.gs.map (·.2) ++ s.here.map (·.c) := by
  rw [set_here, map_set (·.c) f o k v fun x => (setR_eq f o k v x).2.2.1]; rfl
theorem HPl.setc {s : HSt} (x : HPl s) (f o k : Nat) (v : V) : HPl (s.setc f o k v) := by
  have un : ∀ r ∈ (s.setc f o k v).rs, ∃ y ∈ s.rs, r = setR f o k v y := fun r hr => by
    obtain ⟨y, hy, e⟩ := List.mem_map.mp hr; exact ⟨y, hy, e.symm⟩
  refine ⟨x.gn, fun r hr => ?_, ?_, ?_, fun r hr => ?_, fun r hr => ?_, fun r hr => ?_, x.mo, by rw [set_used]; exact x.tp, x.tm, by rw [set_gs]; exact x.sp, by rw [set_gs]; exact x.s1, by rw [set_gs]; exact x.s2, x.s3, x.s4⟩
  · obtain ⟨y, hy, rfl⟩ := un r hr
    rw [(setR_eq f o k v y).1]; exact x.gm y hy
  · show s.gs.length ≤ (s.rs.map _).length
    rw [List.length_map]; exact x.gle
  · show ((s.rs.map (setR f o k v)).map fun r => (r.f, r.o)).Nodup
    rw [map_set (fun r => (r.f, r.o)) f o k v fun y => by rw [(setR_eq f o k v y).1, (setR_eq f o k v y).2.1]]
    exact x.kn
  · obtain ⟨y, hy, rfl⟩ := un r hr
    obtain ⟨e1, e2, e3, e4, e5⟩ := setR_eq f o k v y
    rw [set_fill, e1, e2, e5]; exact x.ro y hy
  · obtain ⟨y, hy, rfl⟩ := un r hr
    rw [(setR_eq f o k v y).2.2.2.2]; exact x.sz y hy
  · obtain ⟨y, hy, rfl⟩ := un r hr
    rw [(setR_eq f o k v y).1]; exact x.fl y hy
theorem HoAt.setc {C : Addr} {H H' : Hp} {s : HSt} {r : Rm} {k : Nat} {v : V} (x : HoAt C H s) (hr : r ∈ s.here) (kp : Kp [r.c] H H') (ec : H' r.c = some (.lst (r.cells.set k v))) (hv : VOk H s.rs v) : HoAt C H' (s.setc r.f r.o k v) := by
  obtain ⟨dx, fs, e, ff, hf⟩ := x.ob
  have er := x.cl r hr
  have hrs := (List.mem_filter.mp hr).1
  have ot : ∀ {b ob}, H b = some ob → b ≠ r.c → H' b = some ob := fun eb n => kp _ _ eb (by simpa using n)
  have tk : ∀ b xs, H b = some (.tup xs) → H' b = some (.tup xs) := fun b xs eb => ot eb (ne_of eb er (fun z => by cases z))
  have nin := x.pl.sp
  have hin : r.c ∈ s.here.map (·.c) := List.mem_map.mpr ⟨r, hr, rfl⟩
  have vm : ∀ {u}, VOk H s.rs u → VOk H' (s.setc r.f r.o k v).rs u := fun hu => by
    rcases hu with h | h | ⟨y, hy, q, h1, h2⟩
    · exact .inl h
    · exact .inr (.inl h)
    · refine .inr (.inr ⟨setR r.f r.o k v y, List.mem_map.mpr ⟨y, hy, rfl⟩, q, h1, ?_⟩)
      rw [(setR_eq r.f r.o k v y).1, (setR_eq r.f r.o k v y).2.1]
      exact tk _ _ h2
  refine ⟨⟨dx, fs, ot e (ne_of e er (fun z => by cases z)), ff, ⟨hf.most, hf.top, hf.gd, hf.fd, hf.sd, hf.hd, hf.len⟩⟩, ot x.lh (fun z => x.pl.s1 (List.mem_append_right _ (z ▸ hin))), ot x.lt (fun z => x.pl.s2 (List.mem_append_right _ (z ▸ hin))), x.ne, x.wf,
    ot x.gd (ne_of x.gd er (fun z => by cases z)), ?_, ?_, ?_, fun y hy => ?_, fun y hy => ?_, fun y hy => ?_, fun y hy u hu => ?_, x.pl.setc _ _ _ _⟩
  · have z : (s.setc r.f r.o k v).fdL = s.fdL := by
      unfold HSt.fdL
      refine List.map_congr_left fun y _ => ?_
      rw [set_fill]
    rw [z]; exact ot x.fd (ne_of x.fd er (fun z => by cases z))
  · have z : (s.setc r.f r.o k v).sdL = s.sdL := by
      unfold HSt.sdL
      exact map_set (fun q => (q.key, V.int (q.cells.length : Int))) _ _ _ _ (fun y => by
        obtain ⟨e1, e2, _, _, e5⟩ := setR_eq r.f r.o k v y
        unfold Rm.key
        rw [e1, e2, e5]) s.rs
    rw [z]; exact ot x.sd (ne_of x.sd er (fun z => by cases z))
  · have z : hdL (s.setc r.f r.o k v).here = hdL s.here := by
      rw [set_here]
      exact map_set (fun q => (q.key, V.ref q.c)) _ _ _ _ (fun y => by
        obtain ⟨e1, e2, e3, _, _⟩ := setR_eq r.f r.o k v y
        unfold Rm.key
        rw [e1, e2, e3]) s.here
    rw [z]; exact ot x.hd (ne_of x.hd er (fun z => by cases z))
  · have z : ((s.setc r.f r.o k v).giv y.1).map (fun q => V.ref q.w) = (s.giv y.1).map fun q => V.ref q.w := by
      rw [set_giv]; exact map_set (fun q => V.ref q.w) _ _ _ _ (fun q => by rw [(setR_eq r.f r.o k v q).2.2.2.1]) _
    rw [z]
    exact ot (x.gl y hy) (fun z => (List.nodup_append.mp nin).2.2 _ (List.mem_map.mpr ⟨y, hy, rfl⟩) _ hin z)
  · rw [set_here] at hy
    obtain ⟨q, hq, rfl⟩ := List.mem_map.mp hy
    have hqs := (List.mem_filter.mp hq).1
    rw [(setR_eq r.f r.o k v q).2.2.1]
    by_cases c : q.f = r.f ∧ q.o = r.o
    · obtain rfl := same_room x.pl hqs hrs c.1 c.2
      unfold setR
      rw [if_pos ⟨rfl, rfl⟩]; exact ec
    · have nq : q ≠ r := fun z => c ⟨by rw [z], by rw [z]⟩
      unfold setR
      rw [if_neg c]
      exact ot (x.cl q hq) (nodup_ne (List.nodup_append.mp nin).2.1 hq hr nq)
  · obtain ⟨q, hq, rfl⟩ := List.mem_map.mp hy
    obtain ⟨e1, e2, _, e4, _⟩ := setR_eq r.f r.o k v q
    rw [e1, e2, e4]; exact tk _ _ (x.wl q hq)
  · rw [set_here] at hy
    obtain ⟨q, hq, rfl⟩ := List.mem_map.mp hy
    refine vm ?_
    by_cases c : q.f = r.f ∧ q.o = r.o
    · unfold setR at hu
      rw [if_pos c] at hu
      rcases List.mem_or_eq_of_mem_set hu with z | z
      · exact x.vs q hq u z
      · rw [z]; exact hv
    · unfold setR at hu
      rw [if_neg c] at hu
      exact x.vs q hq u hu
/-- a value, or a pair that is none -/
def ValOr (H : Hp) (s : HSt) (v : V) : Prop := VOk H s.rs v ∨ ∃ q, ∃ a b : Nat, v = .ref q ∧ H q = some (.tup [.int (a : Int), .int (b : Int)]) ∧ ∀ r ∈ s.rs, ¬ (r.f = a ∧ r.o = b)
def spPut (K : PySem.W.Frag) : Sp := fun vs H Q E => ∃ s q, ∃ a b : Nat, ∃ (k : Int) (v : V), vs = [.ref s.p, .ref q, .int k, v] ∧ HoAt (CH K) H s ∧ H q = some (.tup [.int (a : Int), .int (b : Int)]) ∧ ValOr H s v ∧
  CellOut K H s q a b k (fun r H1 => (VOk H1 s.rs v → ∀ H', Kp [r.c] H1 H' → HoAt (CH K) H' (s.setc r.f r.o k.toNat v) → H' r.c = some (.lst (r.cells.set k.toNat v)) → Q .non H') ∧
    (∀ q', v = .ref q' → ∀ a' b' : Nat, H1 q' = some (.tup [.int (a' : Int), .int (b' : Int)]) → (∀ r ∈ s.rs, ¬ (r.f = a' ∧ r.o = b')) → ∀ d H', Kp [] H1 H' → H' d = some (.xd [("found", v)]) → E (.ref (He.ga K "NoValue")) (some d) H')) E
theorem VOk.th {H : Hp} {rs : List Rm} {v : V} (x : VOk H rs v) : Sh H v ∧ (∀ q, v = .ref q → Th H (.ref q) ∧ pairV H (.ref q) = true) := by
  rcases x with e | ⟨z, e⟩ | ⟨r, hr, q, e, eq⟩
  · subst e; exact ⟨.non, fun q z => by cases z⟩
  · subst e; exact ⟨.int z, fun q z => by cases z⟩
  · subst e; exact ⟨.tup eq, fun q' z => by cases z; exact way_th eq⟩
section
variable {P : Program} {w : World} {K : PySem.W.Frag} {mg : Str → Option Value} {base : Heap}
theorem ok_isval (T : Tx K mg) {fd : FuncData} {f : Addr} (F : Fun K "is_value" "House.is_value" s_House_is_value f fd) (c_is_number : Cal P w K mg base 1 "is_number" spNumG) (c_is_pair : Cal P w K mg base 2 "is_pair" spPair) :
    FnG P w K mg base 3 f fd ["self", "thing"] (spIsVal K) := by
  refine FnG.of F sc_House_is_value (fun vs H Q E h => ?_) (fun cdv A outer s H vs Q E hr h => ?_)
  · obtain ⟨s, v, rfl, _⟩ := h; rfl
  · obtain ⟨s, v, rfl, ho, h⟩ := h
    obtain ⟨dx, fs, e, ff, hf⟩ := ho.ob
    refine ⟨_, pss_cons (ps_if (PW.pt (pw_or (pt_cmpR op_isN (pv 1) (pe_non) (by first | exact nomark _ | rfl)) (pw_or1 (pt_val (gc c_is_number (hr.mono (by decide)) takes0 (pa_cons (pv 1) (pa_nil))))))) (pss_one (ps_ret (pe_bl))) (pss_nil))
      (pss_one (ps_ret (pe_and (gc c_is_pair (hr.mono (by decide)) takes0 (pa_cons (pv 1) (pa_nil))) (pe_one (pe_cmp (pc_din hr.hu (pv 1) (kfld K (pv 0))) rfl))))), ?_⟩
    rcases h with ⟨hv, q⟩ | ⟨qq, a, b, rfl, hq, hno, q⟩
    · rcases hv with rfl | ⟨z, rfl⟩ | ⟨r, hr2, qq, rfl, hq⟩
      · exact ⟨_, rfl, rfl, _, rfl, iteT (iteT (q H Kp.refl))⟩
      · exact ⟨_, rfl, rfl, _, rfl, iteF ⟨_, rfl, .int z, rfl, .int z, _, rfl, iteT (q H Kp.refl)⟩⟩
      · obtain ⟨th, tp⟩ := way_th hq
        refine ⟨_, rfl, rfl, _, rfl, iteF ⟨_, rfl, .ref qq, rfl, .tup hq, _, rfl, iteF ⟨_, rfl, .ref qq, rfl, th, fun H1 k1 => ⟨_, rfl, ?_⟩⟩⟩⟩
        rw [tp]
        have ho1 := ho.kp0 k1
        refine iteT ⟨_, rfl, _, rfl, s.p, CH K, dx, fs, _, rfl, k1 _ _ e (by simp), T.c_House, T.n_House_sizes, hf.sd, s.sd, _, rfl, DGet.t (k := r.key) ho1.sd (k1 _ _ hq (by simp)), ?_⟩
        rw [sv_in ho.pl hr2]
        exact q H1 k1
    · obtain ⟨th, tp⟩ := way_th hq
      refine ⟨_, rfl, rfl, _, rfl, iteF ⟨_, rfl, .ref qq, rfl, .tup hq, _, rfl, iteF ⟨_, rfl, .ref qq, rfl, th, fun H1 k1 => ⟨_, rfl, ?_⟩⟩⟩⟩
      rw [tp]
      have ho1 := ho.kp0 k1
      refine iteT ⟨_, rfl, _, rfl, s.p, CH K, dx, fs, _, rfl, k1 _ _ e (by simp), T.c_House, T.n_House_sizes, hf.sd, s.sd, _, rfl, DGet.t (k := [.inl (a : Int), .inl (b : Int)]) ho1.sd (k1 _ _ hq (by simp)), ?_⟩
      rw [sv_no hno]
      exact q H1 k1
theorem ok_put (T : Tx K mg) {fd : FuncData} {f : Addr} (F : Fun K "put" "House.put" s_House_put f fd) (m_need_cell : Met P w K mg base 4 (CH K) "need_cell" (spCellN K)) (m_is_value : Met P w K mg base 3 (CH K) "is_value" (spIsVal K))
    (r_NoValue : Rai P w K mg base "NoValue" (He.ga K "NoValue") ["found"]) : FnG P w K mg base 5 f fd ["self", "way", "k", "value"] (spPut K) := by
  refine FnG.of F sc_House_put (fun vs H Q E h => ?_) (fun cdv A outer s H vs Q E hr h => ?_)
  · obtain ⟨s, q, a, b, k, v, rfl, _⟩ := h; rfl
  · obtain ⟨s, q, a, b, k, v, rfl, ho, hq, hvo, o1, o2, o3⟩ := h
    obtain ⟨dx, fs, e, ff, hf⟩ := ho.ob
    refine ⟨_, pss_cons (ps_expr (gm m_need_cell (hr.mono (by decide)) tkE (pv 0) (pa_cons (pv 1) (pa_cons (pv 2) (pa_nil)))))
      (pss_cons (ps_if (pt_not (pt_val (gm m_is_value (hr.mono (by decide)) tkE (pv 0) (pa_cons (pv 3) (pa_nil))))) (pss_one (ps_rais r_NoValue (hr.mono (by decide)) tkE (pa_cons (pv 3) (pa_nil)))) (pss_nil))
      (pss_one (ps_asg (pv 3) (pg_sub (pe_dget hr.hu (kfld K (pv 0)) (pv 1) (fun _ _ => rfl)) (pv 2) set_list)))), ?_⟩
    refine ⟨_, rfl, s.p, dx, fs, rfl, e, ff.no _ (by decide +kernel), _, rfl, _, rfl, s, q, a, b, k, rfl, ho, hq, fun r hr2 ea eb hu H1 k1 => ⟨fun hk => ?_, (o1 r hr2 ea eb hu H1 k1).2⟩, o2, o3⟩
    obtain ⟨y1, y2⟩ := (o1 r hr2 ea eb hu H1 k1).1 hk
    have ho1 := ho.kp0 k1
    have e1 := k1 _ _ e (by simp)
    have hq1 := k1 _ _ hq (by simp)
    have hh := mem_here hr2 hu
    have ek : ([.inl (a : Int), .inl (b : Int)] : List L2.Key) = r.key := by unfold Rm.key; rw [ea, eb]
    have tk1 : ∀ b xs, H b = some (.tup xs) → H1 b = some (.tup xs) := fun b xs eb => k1 _ _ eb (by simp)
    rcases hvo with hv | ⟨q', a', b', rfl, hq', hno⟩
    · have hv1 := hv.kp tk1
      refine ⟨_, rfl, s.p, dx, fs, rfl, e1, ff.no _ (by decide +kernel), _, rfl, s, v, rfl, ho1, .inl ⟨hv1, fun H2 k2 => ⟨_, rfl, iteF ?_⟩⟩⟩
      have ho2 := ho1.kp0 k2
      have ec2 := ho2.cl r hh
      obtain ⟨j, rfl⟩ : ∃ j : Nat, k = j := ⟨k.toNat, by omega⟩
      have hj : j < r.cells.length := by omega
      refine ⟨_, rfl, _, rfl, s.p, CH K, dx, fs, _, rfl, k2 _ _ e1 (by simp), T.c_House, T.n_House_held, hf.hd, _, rfl, s.hd, _, rfl, by rw [← hv_in ho.pl (here_sub s) hh, ← ek]; exact DGet.t (k := [.inl (a : Int), .inl (b : Int)]) ho2.hd (k2 _ _ hq1 (by simp)), _, rfl, r.c, _, _, j, rfl, rfl, ec2, ?_, ?_⟩
      · unfold ixN
        rw [if_pos (by omega), if_pos (by omega)]; rfl
      · have kk : Kp [r.c] H2 (L2.upd H2 r.c (.lst (r.cells.set j v))) := fun b ob eb hb => by
          rw [upd_ne (by simpa using hb)]; exact eb
        exact y1 hv1 _ (fun b ob eb hb => kk b ob (k2 b ob eb (by simp)) hb) (ho2.setc hh kk upd_same (hv1.kp fun b xs eb => k2 _ _ eb (by simp))) upd_same
    · have hq1' := k1 _ _ hq' (by simp)
      refine ⟨_, rfl, s.p, dx, fs, rfl, e1, ff.no _ (by decide +kernel), _, rfl, s, .ref q', rfl, ho1, .inr ⟨q', a', b', rfl, hq1', hno, fun H2 k2 => ⟨_, rfl, iteT ⟨_, rfl, rfl, (by show 1 ≤ 10; decide), fun d hd => ?_⟩⟩⟩⟩
      exact y2 q' rfl a' b' hq1' hno d _ (k2.new hd) upd_same
end

end Lw
namespace Lw
open PySem PySem.Spec L2 FG
open PyProof.Rows hiding St
/-! ### a house made, a frame begun in it -/
def HSt.bare (p h t gd fd sd hd : Addr) (n : Nat) : HSt := ⟨p, h, t, gd, fd, sd, hd, [none], [none], [], [], n, 0⟩
def HSt.withF (s : HSt) (hs ts : List (Option Int)) : HSt := { s with hs := hs, ts := ts }
theorem begun_here {s : HSt} (x : HPl s) (wl : s.ts.length = s.hs.length) (hs : List (Option Int)) : (s.withF hs (s.ts ++ [none])).here = s.here := by
  unfold HSt.here
  refine List.filter_congr fun r hr => ?_
  have e : (s.ts ++ [none])[r.f]? = s.ts[r.f]? := List.getElem?_append_left (by have := x.fl r hr; omega)
  refine decide_eq_decide.mpr ?_
  show (s.ts ++ [none])[r.f]? = some none ↔ s.ts[r.f]? = some none
  rw [e]
theorem HoAt.begun {C : Addr} {H H' : Hp} {s : HSt} {f : Nat} (x : HoAt C H s) (kp : Kp [s.h, s.t] H H') (fr : FrAt C H' s.p s.h s.t (s.hs ++ [some (f : Int)]) (s.ts ++ [none])) : HoAt C H' (s.withF (s.hs ++ [some (f : Int)]) (s.ts ++ [none])) := by
  obtain ⟨dx, fs, e, ff, hf⟩ := x.ob
  have pl := x.pl
  have hh := begun_here pl x.wf.len (s.hs ++ [some (f : Int)])
  have ot : ∀ {b o}, H b = some o → b ≠ s.h → b ≠ s.t → H' b = some o := fun eb n1 n2 => kp _ _ eb (by simp [n1, n2])
  have nl : ∀ {b o}, H b = some o → (∀ xs, o ≠ .lst xs) → H' b = some o := fun eb n => ot eb (ne_of eb x.lh (n _)) (ne_of eb x.lt (n _))
  have tk : ∀ b xs, H b = some (.tup xs) → H' b = some (.tup xs) := fun b xs eb => nl eb (fun _ z => by cases z)
  have m1 : ∀ {b}, b ∈ s.gs.map (·.2) ++ s.here.map (·.c) → b ≠ s.h ∧ b ≠ s.t := fun hb => ⟨fun z => pl.s1 (z ▸ hb), fun z => pl.s2 (z ▸ hb)⟩
  have hus : (s.withF (s.hs ++ [some (f : Int)]) (s.ts ++ [none])).used = s.used := by unfold HSt.used; rw [hh]
  refine ⟨⟨dx, fs, nl e (fun _ z => by cases z), ff, ⟨hf.most, hf.top, hf.gd, hf.fd, hf.sd, hf.hd, hf.len⟩⟩, fr.lh, fr.lt, x.ne, fr.wf, nl x.gd (fun _ z => by cases z), nl x.fd (fun _ z => by cases z), nl x.sd (fun _ z => by cases z),
    by rw [hh]; exact nl x.hd (fun _ z => by cases z), fun y hy => ?_, fun r hr => ?_, fun r hr => tk _ _ (x.wl r hr), fun r hr v hv => ?_, ?_⟩
  · obtain ⟨n1, n2⟩ := m1 (List.mem_append_left _ (List.mem_map.mpr ⟨y, hy, rfl⟩))
    exact ot (x.gl y hy) n1 n2
  · rw [hh] at hr
    obtain ⟨n1, n2⟩ := m1 (List.mem_append_right _ (List.mem_map.mpr ⟨r, hr, rfl⟩))
    exact ot (x.cl r hr) n1 n2
  · rw [hh] at hr
    exact (x.vs r hr v hv).kp tk
  · exact ⟨pl.gn, pl.gm, pl.gle, pl.kn, pl.ro, pl.sz, fun r hr => by have := pl.fl r hr; show _ < (s.hs ++ [some (f : Int)]).length; rw [List.length_append]; omega, pl.mo, by rw [hus]; exact pl.tp, pl.tm, by rw [hh]; exact pl.sp, by rw [hh]; exact pl.s1, by rw [hh]; exact pl.s2, pl.s3, pl.s4⟩
def spHInit (K : PySem.W.Frag) : Sp := fun vs H Q _ => ∃ (p dx : Addr) (n : Nat), vs = [.ref p, nint n] ∧ H p = some (.ins (CH K) dx []) ∧ 1 ≤ n ∧ n ≤ 1000 ∧
  ∀ h t gd fd sd hd H', (∀ b ∈ [h, t, gd, fd, sd, hd], H b = none) → Kp [p] H H' → HoAt (CH K) H' (HSt.bare p h t gd fd sd hd n) → Q .non H'
theorem frF_put {fs : List (Str × V)} {h t : Addr} (ff : FrF fs h t) (f : Str) (v : V) (h1 : ¬ ("holders" : Str) = f) (h2 : ¬ ("takers" : Str) = f) (h3 : (frMeths.all fun m => decide (¬ m = f)) = true) : FrF (putF f v fs) h t := by
  refine ⟨by rw [lookup_putF, if_neg h1]; exact ff.hh, by rw [lookup_putF, if_neg h2]; exact ff.tt, fun m hm => ?_⟩
  rw [lookup_putF, if_neg (of_decide_eq_true (List.all_eq_true.mp h3 m hm))]
  exact ff.no m hm
def fsAll (h t gd fd sd hd : Addr) (n : Nat) : List (Str × V) :=
  putF "held" (.ref hd) (putF "sizes" (.ref sd) (putF "filled" (.ref fd) (putF "given" (.ref gd) (putF "top" (.int 0) (putF "most" (nint n) (putF "takers" (.ref t) (putF "holders" (.ref h) [])))))))
theorem putF_le (f : Str) (v : V) : ∀ fs : List (Str × V), (putF f v fs).length ≤ fs.length + 1
  | [] => by simp [putF]
  | (g, y) :: r => by
    unfold putF
    by_cases e : g = f
    · rw [if_pos e]; simp
    · rw [if_neg e]
      have := putF_le f v r
      simp; omega
theorem upd_two {H : Hp} {p x : Addr} {u v : HO} (hx : H x = none) : ∀ b o, b ≠ p → H b = some o → L2.upd (L2.upd H x u) p v b = some o := fun b o n e => (upd_ne n).trans ((upd_ne (ne_of_none e hx)).trans e)
theorem upd_two_x {H : Hp} {p x : Addr} {u v : HO} (nx : x ≠ p) : L2.upd (L2.upd H x u) p v x = some u := (upd_ne nx).trans upd_same
theorem ho_bare {C : Addr} {H : Hp} {p h t gd fd sd hd dx : Addr} {n : Nat} (e : H p = some (.ins C dx (fsAll h t gd fd sd hd n))) (lh : H h = some (.lst [.non])) (lt : H t = some (.lst [.non])) (ne : h ≠ t) (eg : H gd = some (.dK [])) (ef : H fd = some (.dK []))
    (es : H sd = some (.dT [])) (eh : H hd = some (.dT [])) (n1 : gd ≠ fd) (n2 : sd ≠ hd) (h2 : n ≤ 1000) : HoAt C H (HSt.bare p h t gd fd sd hd n) := by
  have ff : FrF (fsAll h t gd fd sd hd n) h t := by
    unfold fsAll
    exact frF_put (frF_put (frF_put (frF_put (frF_put (frF_put (frF0 h t) _ _ (by decide +kernel) (by decide +kernel) (by decide +kernel)) _ _ (by decide +kernel) (by decide +kernel) (by decide +kernel)) _ _ (by decide +kernel) (by decide +kernel) (by decide +kernel)) _ _ (by decide +kernel) (by decide +kernel) (by decide +kernel)) _ _ (by decide +kernel) (by decide +kernel) (by decide +kernel)) _ _ (by decide +kernel) (by decide +kernel) (by decide +kernel)
  refine ⟨⟨dx, _, e, ff, ?_⟩, lh, lt, ne, wf0, eg, ef, es, eh, (fun x hx => by cases hx), (fun r hr => by cases hr), (fun r hr => by cases hr), (fun r hr => by cases hr), ?_⟩
  · unfold fsAll
    refine ⟨?_, ?_, ?_, ?_, ?_, ?_, ?_⟩
    · rw [lookup_putF, if_neg (by decide +kernel), lookup_putF, if_neg (by decide +kernel), lookup_putF, if_neg (by decide +kernel), lookup_putF, if_neg (by decide +kernel), lookup_putF, if_neg (by decide +kernel), lookup_putF, if_pos rfl]; rfl
    · rw [lookup_putF, if_neg (by decide +kernel), lookup_putF, if_neg (by decide +kernel), lookup_putF, if_neg (by decide +kernel), lookup_putF, if_neg (by decide +kernel), lookup_putF, if_pos rfl]; rfl
    · rw [lookup_putF, if_neg (by decide +kernel), lookup_putF, if_neg (by decide +kernel), lookup_putF, if_neg (by decide +kernel), lookup_putF, if_pos rfl]; rfl
    · rw [lookup_putF, if_neg (by decide +kernel), lookup_putF, if_neg (by decide +kernel), lookup_putF, if_pos rfl]; rfl
    · rw [lookup_putF, if_neg (by decide +kernel), lookup_putF, if_pos rfl]; rfl
    · rw [lookup_putF, if_pos rfl]; rfl
    · refine Nat.le_trans (putF_le _ _ _) ?_
      refine Nat.le_trans (Nat.add_le_add_right (putF_le _ _ _) 1) ?_
      refine Nat.le_trans (Nat.add_le_add_right (Nat.add_le_add_right (putF_le _ _ _) 1) 1) ?_
      refine Nat.le_trans (Nat.add_le_add_right (Nat.add_le_add_right (Nat.add_le_add_right (putF_le _ _ _) 1) 1) 1) ?_
      have h1 := putF_le "top" (.int 0) (putF "most" (nint n) (putF "takers" (.ref t) (putF "holders" (.ref h) [])))
      have h2 := putF_le "most" (nint n) (putF "takers" (.ref t) (putF "holders" (.ref h) []))
      have h3 := putF_le "takers" (.ref t) (putF "holders" (.ref h) [])
      have h4 := putF_le "holders" (.ref h) []
      have h5 : ([] : List (Str × V)).length = 0 := rfl
      omega
  · exact ⟨List.nodup_nil, (fun r hr => by cases hr), Nat.le_refl _, List.nodup_nil, (fun r hr => by cases hr), (fun r hr => by cases hr), (fun r hr => by cases hr), h2, Nat.le_refl _, Nat.zero_le _, List.nodup_nil, (fun z => by cases z), (fun z => by cases z), n1, n2⟩
section
variable {P : Program} {w : World} {K : PySem.W.Frag} {mg : Str → Option Value} {base : Heap}
theorem ok_hinit (T : Tx K mg) {fd : FuncData} {f : Addr} (F : Fun K "__init__" "House.__init__" s_House___init__ f fd) (c_is_whole : Cal P w K mg base 2 "is_whole" spWhole) (u_Frames___init__ : Unb P w K mg base 1 "Frames" "__init__" (spFInit (CH K))) :
    FnG P w K mg base 3 f fd ["self", "limit"] (spHInit K) := by
  obtain ⟨tM, hg_MOST_CELLS⟩ := T.i_MOST_CELLS
  refine FnG.of F sc_House___init__ (fun vs H Q E h => ?_) (fun cdv A outer s H vs Q E hr h => ?_)
  · obtain ⟨p, dx, n, rfl, _⟩ := h; rfl
  · obtain ⟨p, dx, n, rfl, hp, n1, n2, q⟩ := h
    refine ⟨_, pss_cons (ps_if (pt_not (pt_val (gc c_is_whole (hr.mono (by decide)) takes0 (pa_cons (pv 1) (pa_cons (pe_int) (pa_cons (pe_glob (v := .int 1000) rfl hg_MOST_CELLS ⟨_, rfl⟩) (pa_nil))))))) (pss_one (ps_never)) (pss_nil))
      (pss_cons (ps_expr (gu u_Frames___init__ (hr.mono (by decide)) takes0 (pa_cons (pv 0) (pa_nil))))
      (pss_cons (ksFld K (pv 0) (pv 1))
      (pss_cons (ksFld K (pv 0) (pe_int))
      (pss_cons (ksFld K (pv 0) (pe_dnewK))
      (pss_cons (ksFld K (pv 0) (pe_dnewK))
      (pss_cons (ksFld K (pv 0) pe_dnewT)
      (pss_one (ksFld K (pv 0) pe_dnewT)))))))), ?_⟩
    refine ⟨_, rfl, (n : Int), 1, 1000, rfl, _, rfl, ?_⟩
    have z : decide ((1 : Int) ≤ (n : Int) ∧ (n : Int) ≤ 1000) = true := decide_eq_true ⟨by omega, by omega⟩
    rw [z]
    refine iteF ⟨_, rfl, p, dx, rfl, hp, fun h t H1 hh ht nh nt k1 fr e1 => ?_⟩
    obtain ⟨_, lh1, lt1, ne, _⟩ := fr
    have out : ∀ {b}, H1 b = none → H b = none := fun {b} hb => by
      cases q : H b with
      | none => rfl
      | some o =>
        by_cases c : b = p
        · rw [c, e1] at hb; cases hb
        · rw [k1 b o q (by simpa using c)] at hb; cases hb
    refine ⟨_, rfl, _, rfl, p, CH K, dx, _, rfl, e1, T.c_House, T.n_House_most, (by show 2 < 1000; decide), ?_⟩
    refine ⟨_, rfl, p, CH K, dx, _, rfl, upd_same, T.c_House, T.n_House_top, (by show 3 < 1000; decide), ?_⟩
    have m0 : ∀ b o, b ≠ p → H1 b = some o → L2.upd (L2.upd H1 p (.ins (CH K) dx (putF "most" (nint n) (putF "takers" (.ref t) (putF "holders" (.ref h) []))))) p (.ins (CH K) dx (putF "top" (.int 0) (putF "most" (nint n) (putF "takers" (.ref t) (putF "holders" (.ref h) []))))) b = some o :=
      fun b o nb eb => (upd_ne nb).trans ((upd_ne nb).trans eb)
    have f0 : ∀ b, L2.upd (L2.upd H1 p (.ins (CH K) dx (putF "most" (nint n) (putF "takers" (.ref t) (putF "holders" (.ref h) []))))) p (.ins (CH K) dx (putF "top" (.int 0) (putF "most" (nint n) (putF "takers" (.ref t) (putF "holders" (.ref h) []))))) b = none → H1 b = none ∧ b ≠ p :=
      fun b nb => by
        have np : b ≠ p := fun c => by rw [c, upd_same] at nb; cases nb
        rw [upd_ne np, upd_ne np] at nb; exact ⟨nb, np⟩
    have e2 : L2.upd (L2.upd H1 p (.ins (CH K) dx (putF "most" (nint n) (putF "takers" (.ref t) (putF "holders" (.ref h) []))))) p (.ins (CH K) dx (putF "top" (.int 0) (putF "most" (nint n) (putF "takers" (.ref t) (putF "holders" (.ref h) []))))) p = some (.ins (CH K) dx (putF "top" (.int 0) (putF "most" (nint n) (putF "takers" (.ref t) (putF "holders" (.ref h) []))))) := upd_same
    generalize L2.upd (L2.upd H1 p (.ins (CH K) dx (putF "most" (nint n) (putF "takers" (.ref t) (putF "holders" (.ref h) []))))) p (.ins (CH K) dx (putF "top" (.int 0) (putF "most" (nint n) (putF "takers" (.ref t) (putF "holders" (.ref h) []))))) = H2 at *
    -- the four tables
    refine fun gd hgd => ⟨_, rfl, p, CH K, dx, _, rfl, (upd_ne (f0 _ hgd).2.symm).trans e2, T.c_House, T.n_House_given, (by show 4 < 1000; decide), ?_⟩
    have ng := (f0 _ hgd).2
    have m1 := upd_two (p := p) (u := .dK []) (v := .ins (CH K) dx (putF "given" (.ref gd) (putF "top" (.int 0) (putF "most" (nint n) (putF "takers" (.ref t) (putF "holders" (.ref h) [])))))) hgd
    have g1 := upd_two_x (H := H2) (u := .dK []) (v := .ins (CH K) dx (putF "given" (.ref gd) (putF "top" (.int 0) (putF "most" (nint n) (putF "takers" (.ref t) (putF "holders" (.ref h) [])))))) ng
    have e3 : L2.upd (L2.upd H2 gd (.dK [])) p (.ins (CH K) dx (putF "given" (.ref gd) (putF "top" (.int 0) (putF "most" (nint n) (putF "takers" (.ref t) (putF "holders" (.ref h) [])))))) p = _ := upd_same
    have f1 : ∀ b, L2.upd (L2.upd H2 gd (.dK [])) p (.ins (CH K) dx (putF "given" (.ref gd) (putF "top" (.int 0) (putF "most" (nint n) (putF "takers" (.ref t) (putF "holders" (.ref h) [])))))) b = none → H2 b = none ∧ b ≠ p ∧ b ≠ gd := fun b nb => by
      have np : b ≠ p := fun c => by rw [c, upd_same] at nb; cases nb
      rw [upd_ne np] at nb
      have n2 : b ≠ gd := fun c => by rw [c, upd_same] at nb; cases nb
      rw [upd_ne n2] at nb; exact ⟨nb, np, n2⟩
    generalize L2.upd (L2.upd H2 gd (.dK [])) p (.ins (CH K) dx (putF "given" (.ref gd) (putF "top" (.int 0) (putF "most" (nint n) (putF "takers" (.ref t) (putF "holders" (.ref h) [])))))) = H3 at *
    refine fun fd hfd => ⟨_, rfl, p, CH K, dx, _, rfl, (upd_ne (f1 _ hfd).2.1.symm).trans e3, T.c_House, T.n_House_filled, (by show 5 < 1000; decide), ?_⟩
    obtain ⟨hfd2, nf, nfg⟩ := f1 _ hfd
    have m2 := upd_two (p := p) (u := .dK []) (v := .ins (CH K) dx (putF "filled" (.ref fd) (putF "given" (.ref gd) (putF "top" (.int 0) (putF "most" (nint n) (putF "takers" (.ref t) (putF "holders" (.ref h) []))))))) hfd
    have g2 := upd_two_x (H := H3) (u := .dK []) (v := .ins (CH K) dx (putF "filled" (.ref fd) (putF "given" (.ref gd) (putF "top" (.int 0) (putF "most" (nint n) (putF "takers" (.ref t) (putF "holders" (.ref h) []))))))) nf
    have e4 : L2.upd (L2.upd H3 fd (.dK [])) p (.ins (CH K) dx (putF "filled" (.ref fd) (putF "given" (.ref gd) (putF "top" (.int 0) (putF "most" (nint n) (putF "takers" (.ref t) (putF "holders" (.ref h) []))))))) p = _ := upd_same
    have f2 : ∀ b, L2.upd (L2.upd H3 fd (.dK [])) p (.ins (CH K) dx (putF "filled" (.ref fd) (putF "given" (.ref gd) (putF "top" (.int 0) (putF "most" (nint n) (putF "takers" (.ref t) (putF "holders" (.ref h) []))))))) b = none → H3 b = none ∧ b ≠ p := fun b nb => by
      have np : b ≠ p := fun c => by rw [c, upd_same] at nb; cases nb
      rw [upd_ne np] at nb
      have n2 : b ≠ fd := fun c => by rw [c, upd_same] at nb; cases nb
      rw [upd_ne n2] at nb; exact ⟨nb, np⟩
    generalize L2.upd (L2.upd H3 fd (.dK [])) p (.ins (CH K) dx (putF "filled" (.ref fd) (putF "given" (.ref gd) (putF "top" (.int 0) (putF "most" (nint n) (putF "takers" (.ref t) (putF "holders" (.ref h) []))))))) = H4 at *
    refine fun sd hsd => ⟨_, rfl, p, CH K, dx, _, rfl, (upd_ne (f2 _ hsd).2.symm).trans e4, T.c_House, T.n_House_sizes, (by show 6 < 1000; decide), ?_⟩
    obtain ⟨hsd3, nsd⟩ := f2 _ hsd
    have m3 := upd_two (p := p) (u := .dT []) (v := .ins (CH K) dx (putF "sizes" (.ref sd) (putF "filled" (.ref fd) (putF "given" (.ref gd) (putF "top" (.int 0) (putF "most" (nint n) (putF "takers" (.ref t) (putF "holders" (.ref h) [])))))))) hsd
    have g3 := upd_two_x (H := H4) (u := .dT []) (v := .ins (CH K) dx (putF "sizes" (.ref sd) (putF "filled" (.ref fd) (putF "given" (.ref gd) (putF "top" (.int 0) (putF "most" (nint n) (putF "takers" (.ref t) (putF "holders" (.ref h) [])))))))) nsd
    have e5 : L2.upd (L2.upd H4 sd (.dT [])) p (.ins (CH K) dx (putF "sizes" (.ref sd) (putF "filled" (.ref fd) (putF "given" (.ref gd) (putF "top" (.int 0) (putF "most" (nint n) (putF "takers" (.ref t) (putF "holders" (.ref h) [])))))))) p = _ := upd_same
    have f3 : ∀ b, L2.upd (L2.upd H4 sd (.dT [])) p (.ins (CH K) dx (putF "sizes" (.ref sd) (putF "filled" (.ref fd) (putF "given" (.ref gd) (putF "top" (.int 0) (putF "most" (nint n) (putF "takers" (.ref t) (putF "holders" (.ref h) [])))))))) b = none → H4 b = none ∧ b ≠ p ∧ b ≠ sd := fun b nb => by
      have np : b ≠ p := fun c => by rw [c, upd_same] at nb; cases nb
      rw [upd_ne np] at nb
      have n2 : b ≠ sd := fun c => by rw [c, upd_same] at nb; cases nb
      rw [upd_ne n2] at nb; exact ⟨nb, np, n2⟩
    generalize L2.upd (L2.upd H4 sd (.dT [])) p (.ins (CH K) dx (putF "sizes" (.ref sd) (putF "filled" (.ref fd) (putF "given" (.ref gd) (putF "top" (.int 0) (putF "most" (nint n) (putF "takers" (.ref t) (putF "holders" (.ref h) [])))))))) = H5 at *
    refine fun hd hhd => ⟨_, rfl, p, CH K, dx, _, rfl, (upd_ne (f3 _ hhd).2.1.symm).trans e5, T.c_House, T.n_House_held, (by show 7 < 1000; decide), ?_⟩
    obtain ⟨hhd4, nhd, nhs⟩ := f3 _ hhd
    have m4 := upd_two (p := p) (u := .dT []) (v := .ins (CH K) dx (fsAll h t gd fd sd hd n)) hhd
    have g4 := upd_two_x (H := H5) (u := .dT []) (v := .ins (CH K) dx (fsAll h t gd fd sd hd n)) nhd
    have e6 : L2.upd (L2.upd H5 hd (.dT [])) p (.ins (CH K) dx (fsAll h t gd fd sd hd n)) p = _ := upd_same
    have all5 : ∀ b o, b ≠ p → H1 b = some o → L2.upd (L2.upd H5 hd (.dT [])) p (.ins (CH K) dx (fsAll h t gd fd sd hd n)) b = some o := fun b o nb eb => m4 b o nb (m3 b o nb (m2 b o nb (m1 b o nb (m0 b o nb eb))))
    have hgd1 := (f0 _ hgd).1
    have hfd1 := (f0 _ hfd2).1
    have hsd1 := (f0 _ (f1 _ hsd3).1).1
    have hhd1 := (f0 _ (f1 _ (f2 _ hhd4).1).1).1
    refine q h t gd fd sd hd _ (fun b hb => ?_) (fun b o eb hb => all5 b o (by simpa using hb) (k1 b o eb hb)) (ho_bare e6 (all5 _ _ nh lh1) (all5 _ _ nt lt1) ne (m4 _ _ ng (m3 _ _ ng (m2 _ _ ng g1))) (m4 _ _ nf (m3 _ _ nf g2)) (m4 _ _ nsd g3) g4 nfg.symm nhs.symm n2)
    simp only [List.mem_cons, List.not_mem_nil, or_false] at hb
    rcases hb with rfl | rfl | rfl | rfl | rfl | rfl
    · exact hh
    · exact ht
    · exact out hgd1
    · exact out hfd1
    · exact out hsd1
    · exact out hhd1
end

end Lw
namespace Lw
open PySem PySem.Spec L2 FG
open PyProof.Rows hiding St
/-! ### a frame ended in a house -/
theorem taken_none {f : Nat} : ∀ (ks : List Nat) (ts : List (Option Int)) (i : Nat), (taken ts ks f)[i]? = some none ↔ ts[i]? = some none ∧ i ∉ ks := by
  intro ks
  induction ks with
  | nil => intro ts i; simp [taken]
  | cons k ks ih =>
    intro ts i
    have e : taken ts (k :: ks) f = taken (ts.set k (some (f : Int))) ks f := rfl
    rw [e, ih, List.getElem?_set]
    by_cases h : k = i
    · subst h
      rw [if_pos rfl]
      by_cases h2 : k < ts.length
      · simp [h2]
      · simp [h2]
    · rw [if_neg h]
      constructor
      · rintro ⟨a, b⟩; exact ⟨a, by simp [b, Ne.symm h]⟩
      · rintro ⟨a, b⟩; exact ⟨a, fun z => b (by simp [z])⟩
theorem ended_here (s : HSt) (ks : List Nat) (f : Nat) : (s.withF s.hs (taken s.ts ks f)).here = s.here.filter fun r => decide (r.f ∉ ks) := by
  unfold HSt.here
  rw [List.filter_filter]
  refine List.filter_congr fun r _ => ?_
  show decide ((taken s.ts ks f)[r.f]? = some none) = (decide (r.f ∉ ks) && decide (s.ts[r.f]? = some none))
  rw [Bool.eq_iff_iff, decide_eq_true_eq, Bool.and_eq_true, decide_eq_true_eq, decide_eq_true_eq, taken_none]
  exact and_comm
theorem szs_sub {l m : List Rm} (h : l.Sublist m) : szs l ≤ szs m := by
  induction h with
  | slnil => exact Nat.le_refl _
  | @cons l₁ l₂ r _ ih => unfold szs at ih ⊢; rw [List.map_cons, List.sum_cons]; omega
  | cons_cons r _ ih => unfold szs at ih ⊢; rw [List.map_cons, List.sum_cons, List.map_cons, List.sum_cons]; omega
theorem HoAt.ended {C : Addr} {H H' : Hp} {s : HSt} {ks : List Nat} {f : Nat} (x : HoAt C H s) (kp : Kp [s.t, s.hd] H H') (et : H' s.t = some (.lst ((taken s.ts ks f).map enc)))
    (eh : H' s.hd = some (.dT (hdL (s.here.filter fun r => decide (r.f ∉ ks))))) : HoAt C H' (s.withF s.hs (taken s.ts ks f)) := by
  obtain ⟨dx, fs, e, ff, hf⟩ := x.ob
  have pl := x.pl
  have hh := ended_here s ks f
  have sub : (s.withF s.hs (taken s.ts ks f)).here.Sublist s.here := by rw [hh]; exact List.filter_sublist
  have ot : ∀ {b o}, H b = some o → b ≠ s.t → b ≠ s.hd → H' b = some o := fun eb n1 n2 => kp _ _ eb (by simp [n1, n2])
  have nl : ∀ {b o}, H b = some o → (∀ xs, o ≠ .lst xs) → (∀ q, o ≠ .dT q) → H' b = some o := fun eb n n2 => ot eb (ne_of eb x.lt (n _)) (ne_of eb x.hd (n2 _))
  have tk : ∀ b xs, H b = some (.tup xs) → H' b = some (.tup xs) := fun b xs eb => nl eb (fun _ z => by cases z) (fun _ z => by cases z)
  have l1 : ∀ {b xs}, H b = some (.lst xs) → b ≠ s.t → H' b = some (.lst xs) := fun eb n => ot eb n (ne_of eb x.hd (fun z => by cases z))
  have sub2 : ∀ b ∈ (s.withF s.hs (taken s.ts ks f)).gs.map (·.2) ++ (s.withF s.hs (taken s.ts ks f)).here.map (·.c), b ∈ s.gs.map (·.2) ++ s.here.map (·.c) := fun b hb => by
    rcases List.mem_append.mp hb with z | z
    · exact List.mem_append_left _ z
    · exact List.mem_append_right _ ((sub.map _).subset z)
  have hus : (s.withF s.hs (taken s.ts ks f)).used ≤ s.used := szs_sub sub
  refine ⟨⟨dx, fs, nl e (fun _ z => by cases z) (fun _ z => by cases z), ff, ⟨hf.most, hf.top, hf.gd, hf.fd, hf.sd, hf.hd, hf.len⟩⟩, l1 x.lh x.ne, et, x.ne, x.wf.taken ks f, nl x.gd (fun _ z => by cases z) (fun _ z => by cases z), nl x.fd (fun _ z => by cases z) (fun _ z => by cases z),
    ot x.sd (ne_of x.sd x.lt (fun z => by cases z)) pl.s4, by rw [hh]; exact eh, fun y hy => l1 (x.gl y hy) (fun z => pl.s2 (List.mem_append_left _ (List.mem_map.mpr ⟨y, hy, z⟩))), fun r hr => ?_, fun r hr => tk _ _ (x.wl r hr), fun r hr v hv => (x.vs r (sub.subset hr) v hv).kp tk, ?_⟩
  · have hr2 := sub.subset hr
    exact l1 (x.cl r hr2) (fun z => pl.s2 (List.mem_append_right _ (List.mem_map.mpr ⟨r, hr2, z⟩)))
  · exact ⟨pl.gn, pl.gm, pl.gle, pl.kn, pl.ro, pl.sz, pl.fl, pl.mo, Nat.le_trans hus pl.tp, pl.tm, ((List.Sublist.refl _).append (sub.map _)).nodup pl.sp, fun z => pl.s1 (sub2 _ z), fun z => pl.s2 (sub2 _ z), pl.s3, pl.s4⟩
def spHClear (K : PySem.W.Frag) : Sp := fun vs H Q _ => ∃ (s : HSt) (L : List Rm) (f : Nat), vs = [.ref s.p, nint f] ∧ (∃ dx fs, H s.p = some (.ins (CH K) dx fs) ∧ HoF fs s) ∧ HPl s ∧ H s.gd = some (.dK s.gdL) ∧ (∀ x ∈ s.gs, H x.2 = some (.lst ((s.giv x.1).map fun r => .ref r.w))) ∧
  (∀ r ∈ s.rs, H r.w = some (.tup [.int (r.f : Int), .int (r.o : Int)])) ∧ H s.hd = some (.dT (hdL L)) ∧ L.Sublist s.rs ∧ (∀ r ∈ s.rs, r.f = f → r ∈ L) ∧
  ∀ H', Kp [s.hd] H H' → H' s.hd = some (.dT (hdL (L.filter fun r => decide (r.f ≠ f)))) → Q .non H'
def spHFin (K : PySem.W.Frag) : Sp := fun vs H Q _ => ∃ (s : HSt) (n : Nat), vs = [.ref s.p, nint n] ∧ HoAt (CH K) H s ∧ s.ts[n]? = some none ∧ 0 < n ∧
  ∀ l H', H l = none → Kp [s.t, s.hd] H H' → HoAt (CH K) H' (s.withF s.hs (taken s.ts (fin s.hs s.ts n) n)) → H' l = some (.lst ((fin s.hs s.ts n).map nint)) → Q (.ref l) H'
def pk (r : Rm) : Nat × Nat := (r.f, r.o)
theorem key_pk {r q : Rm} : r.key = q.key ↔ pk r = pk q := by
  constructor
  · intro h; obtain ⟨a, b⟩ := key_inj h; unfold pk; rw [a, b]
  · intro h; unfold pk at h; injection h with a b; unfold Rm.key; rw [a, b]
theorem stand_nd (ts : List (Option Int)) : (stand ts).Nodup := by
  unfold stand
  exact List.filter_sublist.nodup List.nodup_range
theorem fin_nd (hs ts : List (Option Int)) (f : Nat) : (fin hs ts f).Nodup := by
  unfold fin
  exact List.filter_sublist.nodup ((List.reverse_perm _).symm.nodup (stand_nd ts))
section
variable {P : Program} {w : World} {K : PySem.W.Frag} {mg : Str → Option Value} {base : Heap}
theorem ok_hclear (T : Tx K mg) {fd : FuncData} {f : Addr} (F : Fun K "clear" "House.clear" s_House_clear f fd) : FnG P w K mg base 1 f fd ["self", "frame"] (spHClear K) := by
  refine FnG.of F sc_House_clear (fun vs H Q E h => ?_) (fun cdv A outer s H vs Q E hr h => ?_)
  · obtain ⟨s, L, f, rfl, _⟩ := h; rfl
  · obtain ⟨s, L, f, rfl, ⟨dx, fs, e, hf⟩, pl, egd, egl, ewl, ehd, sub, hall, q⟩ := h
    refine ⟨_, pss_one (ps_for (passes_of rfl) rfl (kiL K (pe_dget2 hr.hu (kfld K (pv 0)) (pv 1) (pe_lst (pa_nil)) ⟨rfl, rfl, rfl, rfl⟩)) (pg_name (i := 2) sc_House_clear.nd rfl (by first | exact Or.inl rfl | exact Or.inr rfl))
        (pss_one (ps_expr (kbm K PySem.F.plainAttrs_dict PySem.F.slot_dict_pop PySem.F.type_dict_pop (mt_popT1 hr.hu) (kfld K (pv 0)) (pa_cons (pv 2) (pa_nil)))))), ?_⟩
    refine ⟨_, rfl, s.p, CH K, dx, fs, _, rfl, e, T.c_House, T.n_House_given, hf.gd, s.gd, rfl, .inl ⟨_, .inl egd⟩, _, rfl, by decide, fun l0 hl0 => ?_⟩
    have n1 := (Kp.refl (S := []) (H := H)).new (o := .lst []) hl0
    have e01 : L2.upd H l0 (.lst []) l0 = some (.lst []) := upd_same
    generalize L2.upd H l0 (.lst []) = H1 at *
    obtain ⟨o, lx, hdg, eo, elx⟩ : ∃ o lx, DGet H1 s.gd (nint f) o ∧ o.getD (.ref l0) = .ref lx ∧ H1 lx = some (.lst ((s.giv f).map fun r => .ref r.w)) := by
      by_cases hg : f ∈ s.gs.map (·.1)
      · obtain ⟨⟨f', a⟩, hx, rfl⟩ := List.mem_map.mp hg
        exact ⟨_, a, DGet.k (k := .inl (f' : Int)) (n1 _ _ egd (by simp)), by rw [gv_in pl hx]; rfl, n1 _ _ (egl _ hx) (by simp)⟩
      · exact ⟨_, l0, DGet.k (k := .inl (f : Int)) (n1 _ _ egd (by simp)), by rw [gv_no hg]; rfl, by rw [giv_no pl hg]; exact e01⟩
    refine ⟨o, hdg, ?_⟩
    rw [eo]
    have nlx : lx ≠ s.hd := ne_of elx (n1 _ _ ehd (by simp)) (fun z => by cases z)
    have ph : s.p ≠ s.hd := ne_of e ehd (fun z => by cases z)
    have gsub : (s.giv f).Sublist s.rs := List.filter_sublist
    have gnd : ((s.giv f).map pk).Nodup := (gsub.map _).nodup pl.kn
    refine ⟨lx, rfl, ⟨_, SqL.of elx⟩, for_list (K := K) (a := lx) (xs := (s.giv f).map fun r => V.ref r.w) (fun i σ H2 => ∃ v, σ = [some (.ref s.p), some (nint f), v] ∧ Kp [s.hd] H1 H2 ∧ H2 s.hd = some (.dT (hdL (L.filter fun r => decide (pk r ∉ ((s.giv f).take i).map pk)))))
      ⟨none, rfl, Kp.refl, ?_⟩ (fun i σ H2 _ ⟨_, _, k, _⟩ => SqL.of (k _ _ elx (by simpa using nlx))) ?_ ?_⟩
    · rw [n1 _ _ ehd (by simp)]
      congr 3
      exact (List.filter_eq_self.mpr fun r _ => by simp).symm
    · rintro i x σ H2 hx ⟨v, rfl, k2, eh2⟩
      obtain ⟨r, hr, rfl⟩ : ∃ r, (s.giv f)[i]? = some r ∧ x = .ref r.w := by
        rw [List.getElem?_map] at hx
        cases ek : (s.giv f)[i]? with
        | none => rw [ek] at hx; cases hx
        | some r => rw [ek] at hx; exact ⟨r, rfl, (Option.some.inj hx).symm⟩
      obtain ⟨hi, er⟩ := List.getElem?_eq_some_iff.mp hr
      have hm : r ∈ s.giv f := List.mem_of_getElem? hr
      obtain ⟨hrs, hrf⟩ := mem_giv.mp hm
      have hnot : pk r ∉ ((s.giv f).take i).map pk := by
        intro z
        have h1 : ((s.giv f).map pk)[i]? = some (pk r) := by rw [List.getElem?_map, hr]; rfl
        rw [List.map_take] at z
        obtain ⟨j, hj, ej⟩ := List.mem_iff_getElem.mp z
        rw [List.getElem_take] at ej
        rw [List.length_take] at hj
        obtain ⟨h3, h4⟩ := List.getElem?_eq_some_iff.mp h1
        have := (List.getElem_inj gnd).mp (ej.trans h4.symm)
        omega
      have hmL : r ∈ L.filter fun r => decide (pk r ∉ ((s.giv f).take i).map pk) := List.mem_filter.mpr ⟨hall r hrs hrf, decide_eq_true hnot⟩
      refine ⟨_, rfl, s.p, CH K, dx, fs, _, rfl, k2 _ _ (n1 _ _ e (by simp)) (by simpa using ph), T.c_House, T.n_House_held, hf.hd, .inr (.inr (.inl ⟨rfl, .inr ⟨_, eh2⟩⟩)), _, rfl, s.hd, _, r.key, r.w, _, rfl, rfl, eh2, k2 _ _ (n1 _ _ (ewl r hrs) (by simp)) ?_, hv_in pl (List.filter_sublist.trans sub) hmL, _, rfl, ?_, ?_⟩
      · have := ne_of (ewl r hrs) ehd (fun z => by cases z)
        simpa using this
      · intro b ob eb hb
        have hb2 : b ≠ s.hd := by simpa using hb
        exact (upd_ne hb2).trans (k2 b ob eb hb)
      · rw [upd_same, drop_hd, List.filter_filter]
        congr 3
        refine List.filter_congr fun y _ => ?_
        rw [List.take_succ_eq_append_getElem hi, List.map_append, er]
        rw [Bool.eq_iff_iff, Bool.and_eq_true, decide_eq_true_eq, decide_eq_true_eq, decide_eq_true_eq, List.mem_append, List.map_cons, List.map_nil, List.mem_singleton, not_or, Ne, key_pk]
        exact and_comm
    · rintro σ H2 ⟨v, rfl, k2, eh2⟩
      refine q H2 (fun b ob eb hb => k2 b ob (n1 b ob eb (by simp)) hb) ?_
      rw [eh2, List.length_map, List.take_length]
      congr 3
      refine List.filter_congr fun r hr => ?_
      rw [decide_eq_decide]
      have hrs := sub.subset hr
      constructor
      · intro h z; exact h (List.mem_map.mpr ⟨r, mem_giv.mpr ⟨hrs, z⟩, rfl⟩)
      · intro h z
        obtain ⟨y, hy, ey⟩ := List.mem_map.mp z
        obtain ⟨hy1, hy2⟩ := mem_giv.mp hy
        exact h ((congrArg Prod.fst ey).symm.trans hy2)
theorem ok_hfinish (T : Tx K mg) {fd : FuncData} {f : Addr} (F : Fun K "finish" "Frames.finish" s_House_finish f fd) (m_need_standing : Met P w K mg base 4 (CH K) "need_standing" (spStd (CH K))) (m_standing : Met P w K mg base 1 (CH K) "standing" (spStanding (CH K)))
    (m_row : Met P w K mg base 4 (CH K) "row" (spRow (CH K))) (m_clear : Met P w K mg base 1 (CH K) "clear" (spHClear K)) : FnG P w K mg base 5 f fd ["self", "frame"] (spHFin K) := by
  refine FnG.of F sc_House_finish (fun vs H Q E h => ?_) (fun cdv A outer s H vs Q E hr h => ?_)
  · obtain ⟨s, n, rfl, _⟩ := h; rfl
  · obtain ⟨s, n, rfl, ho, hn, h0, q⟩ := h
    have fr := ho.fr
    obtain ⟨dx, fs, e, ff, hf⟩ := ho.ob
    have pl := ho.pl
    have lt := ho.lt
    have ws := ho.wf.small
    have wl := ho.wf.len
    have pt : s.p ≠ s.t := ne_of e lt (fun z => by cases z)
    have ph : s.p ≠ s.hd := ne_of e ho.hd (fun z => by cases z)
    refine ⟨_, pss_cons (ps_expr (gm m_need_standing (hr.mono (by decide)) takes0 (pv 0) (pa_cons (pv 1) (pa_nil))))
      (pss_cons (ps_if (pt_cmpR op_eq (pv 1) (pe_int) (by first | exact nomark _ | rfl)) (pss_one (ps_never)) (pss_nil))
      (pss_cons (ps_setLc (i := 2) (own := [("one", 3)]) (g := gName 3) rfl sc_House_finish.nd rfl rfl (sw_true rfl rfl rfl (by decide +kernel)) (kiRev K rfl T.z_reversed (pa_cons (gm0 m_standing (hr.mono (by decide)) takes0 (pv 0)) (pa_nil))) (blkOk_by (own := [("one", 3)]) (N := ["self", "frame", "ended", "one"]) (sc := defScope s_House_finish) (by decide +kernel)) (fun _ _ _ _ _ => pg_name (i := 3) sc_House_finish.nd rfl (by first | exact Or.inl rfl | exact Or.inr rfl)) (fun _ _ _ _ _ => by exact pts_one (pt_cmpR (kin K) (pv 1) (gm m_row (hr.mono (by decide)) takes0 (pv 0) (pa_cons (pv 3) (pa_nil))) (by first | exact nomark _ | rfl))) (fun _ _ _ _ _ => by exact pv 3))
      (pss_cons (ps_for (passes_of rfl) rfl (kiL K (pv 2)) (pg_name (i := 3) sc_House_finish.nd rfl (by first | exact Or.inl rfl | exact Or.inr rfl))
        (pss_cons (ps_asg (pv 1) (pg_sub (kfld K (pv 0)) (pv 3) set_list))
      (pss_one (ps_expr (gm m_clear (hr.mono (by decide)) takes0 (pv 0) (pa_cons (pv 3) (pa_nil)))))))
      (pss_one (ps_ret (pv 2)))))), ?_⟩
    refine ⟨_, rfl, s.p, dx, fs, rfl, e, ff.no _ (by decide +kernel), _, rfl, s.p, s.h, s.t, s.hs, s.ts, n, rfl, fr, hn, ?_⟩
    refine ⟨_, rfl, rfl, _, rfl, ?_⟩
    have z : decide (nint n = V.int 0) = false := decide_eq_false fun c => by unfold nint at c; injection c with c; omega
    rw [z]
    refine iteF ?_
    refine ⟨_, rfl, s.p, dx, fs, rfl, e, ff.no _ (by decide +kernel), s.p, s.h, s.t, s.hs, s.ts, rfl, fr, fun l1 H1 hl1 k1 eL1 => ?_⟩
    refine ⟨l1, _, rfl, SqL.of eL1, fun D hD => ?_⟩
    have neD : ∀ b o, H1 b = some o → b ≠ D := fun b o eb => ne_of_none eb hD
    refine lc_it walk_rev (fun i H2 => Kp [] H1 H2 ∧ H2 D = some (.lst ((((stand s.ts).reverse.take i).filter fun k => decide (n ∈ rowW s.hs k)).map nint)))
      ⟨fun b o eb _ => (upd_ne (neD b o eb)).trans eb, upd_same⟩ (fun i H2 _ ⟨k2, _⟩ => SqL.of (k2 _ _ eL1 (by simp))) ?_ ?_
    · rintro i x H3 H2 hi ⟨k2, eD⟩ ⟨rfl, hx⟩
      rw [List.length_map] at hi hx
      obtain ⟨k, hk, rfl⟩ : ∃ k, (stand s.ts)[(stand s.ts).length - 1 - i]? = some k ∧ x = nint k := by
        rw [List.getElem?_map] at hx
        cases ek : (stand s.ts)[(stand s.ts).length - 1 - i]? with
        | none => rw [ek] at hx; cases hx
        | some k => rw [ek] at hx; exact ⟨k, rfl, (Option.some.inj hx).symm⟩
      have hr : (stand s.ts).reverse[i]? = some k := by rw [List.getElem?_reverse hi]; exact hk
      have hkt : s.ts[k]? = some none := mem_stand.mp (List.mem_of_getElem? hk)
      have hkl : k < s.hs.length := by have := (List.getElem?_eq_some_iff.mp hkt).1; omega
      have kH : Kp [] H H2 := k1.trans k2
      refine ⟨rfl, _, rfl, _, rfl, s.p, dx, fs, rfl, kH _ _ e (by simp), ff.no _ (by decide +kernel), _, rfl, s.p, s.h, s.t, s.hs, s.ts, k, rfl, fr.kp0 kH, hkl, fun l4 H4 hl4 k4 eL4 => ?_⟩
      refine ⟨l4, _, rfl, .inl (SqL.of eL4), rfl, flat_nint _, _, rfl, ?_⟩
      have eD4 : H4 D = some (.lst ((((stand s.ts).reverse.take i).filter fun k => decide (n ∈ rowW s.hs k)).map nint)) := k4 _ _ eD (by simp)
      show if inV (.int (n : Int)) ((rowW s.hs k).map nint) = true then _ else _
      rw [inV_nint]
      by_cases hc : n ∈ rowW s.hs k
      · rw [decide_eq_true hc]
        refine iteT ⟨_, rfl, _, eD4, ?_, fun b o eb hb => ?_, ?_⟩
        · rw [List.length_map]
          have := stand_len s.ts
          refine small1000 (Nat.le_trans (List.length_filter_le _ _) (Nat.le_trans (List.length_take_le _ _) ?_))
          omega
        · rw [upd_ne (neD b o eb)]; exact (k2.trans k4) b o eb hb
        · rw [upd_same, sel_yes nint (fun k => decide (n ∈ rowW s.hs k)) hr (decide_eq_true hc)]
      · rw [decide_eq_false hc]
        refine iteF ⟨k2.trans k4, ?_⟩
        rw [eD4, sel_no nint (fun k => decide (n ∈ rowW s.hs k)) hr (decide_eq_false hc)]
    · rintro H2 ⟨k2, eD⟩
      have eD' : H2 D = some (.lst ((fin s.hs s.ts n).map nint)) := by
        rw [eD, List.length_map, ← List.length_reverse, List.take_length]; rfl
      have kH : Kp [] H H2 := k1.trans k2
      have hDH : H D = none := k1.free hD
      have Dt : D ≠ s.t := (ne_of_none lt hDH).symm
      have Dh : D ≠ s.hd := (ne_of_none ho.hd hDH).symm
      have fnd := fin_nd s.hs s.ts n
      refine ⟨_, rfl, D, rfl, ⟨_, SqL.of eD'⟩, for_list (K := K) (a := D) (xs := (fin s.hs s.ts n).map nint) (fun i σ H3 => ∃ v, σ = [some (.ref s.p), some (nint n), some (.ref D), v] ∧ Kp [s.t, s.hd] H H3 ∧ H3 D = some (.lst ((fin s.hs s.ts n).map nint)) ∧
        H3 s.t = some (.lst ((taken s.ts ((fin s.hs s.ts n).take i) n).map enc)) ∧ H3 s.hd = some (.dT (hdL (s.here.filter fun r => decide (r.f ∉ (fin s.hs s.ts n).take i)))))
        ⟨none, rfl, fun b o eb _ => kH b o eb (by simp), eD', (kH _ _ lt (by simp)).trans rfl, ?_⟩ (fun i σ H3 _ ⟨_, _, _, eD3, _⟩ => SqL.of eD3) ?_ ?_⟩
      · rw [kH _ _ ho.hd (by simp)]
        congr 3
        exact (List.filter_eq_self.mpr fun r _ => by simp).symm
      · rintro i x σ H3 hx ⟨v, rfl, k3, eD3, et3, eh3⟩
        obtain ⟨k, hk, rfl⟩ : ∃ k, (fin s.hs s.ts n)[i]? = some k ∧ x = nint k := by
          rw [List.getElem?_map] at hx
          cases ek : (fin s.hs s.ts n)[i]? with
          | none => rw [ek] at hx; cases hx
          | some k => rw [ek] at hx; exact ⟨k, rfl, (Option.some.inj hx).symm⟩
        obtain ⟨hi, ei⟩ := List.getElem?_eq_some_iff.mp hk
        have hkt : s.ts[k]? = some none := fin_stand (List.mem_of_getElem? hk)
        have hkl : k < s.ts.length := (List.getElem?_eq_some_iff.mp hkt).1
        have hnot : k ∉ (fin s.hs s.ts n).take i := by
          intro z
          obtain ⟨j, hj, ej⟩ := List.mem_iff_getElem.mp z
          rw [List.getElem_take] at ej
          rw [List.length_take] at hj
          have := (List.getElem_inj fnd).mp (ej.trans ei.symm)
          omega
        have ot : ∀ {b o}, H b = some o → b ≠ s.t → b ≠ s.hd → H3 b = some o := fun eb n1 n2 => k3 _ _ eb (by simp [n1, n2])
        refine ⟨_, rfl, _, rfl, s.p, CH K, dx, fs, _, rfl, ot e pt ph, T.c_House, T.n_House_takers, ff.tt, _, rfl, _, _, _, k, rfl, rfl, et3, ?_, ?_⟩
        · unfold ixN
          rw [if_pos (by omega), if_pos (by rw [List.length_map, taken_len]; omega)]; rfl
        · have th : s.t ≠ s.hd := ne_of lt ho.hd (fun z => by cases z)
          have r4 : ∀ b o, H b = some o → b ≠ s.t → b ≠ s.hd → L2.upd H3 s.t (.lst (((taken s.ts ((fin s.hs s.ts n).take i) n).map enc).set k (nint n))) b = some o := fun b o eb n1 n2 => (upd_ne n1).trans (ot eb n1 n2)
          refine ⟨_, rfl, s.p, dx, fs, rfl, r4 _ _ e pt ph, ff.no _ (by decide +kernel), _, rfl, s, _, k, rfl, ⟨dx, fs, r4 _ _ e pt ph, hf⟩, pl, r4 _ _ ho.gd (ne_of ho.gd lt (fun z => by cases z)) (ne_of ho.gd ho.hd (fun z => by cases z)), fun y hy => ?_, fun r hr2 => ?_, (upd_ne th.symm).trans eh3, List.filter_sublist.trans (here_sub s), fun r hr2 hrf => ?_, fun H4 k4 eh4 => ⟨_, rfl, fun b o eb hb => ?_, ?_, ?_, ?_⟩⟩
          · exact r4 _ _ (ho.gl y hy) (fun z => pl.s2 (List.mem_append_left _ (List.mem_map.mpr ⟨y, hy, z⟩))) (ne_of (ho.gl y hy) ho.hd (fun z => by cases z))
          · exact r4 _ _ (ho.wl r hr2) (ne_of (ho.wl r hr2) lt (fun z => by cases z)) (ne_of (ho.wl r hr2) ho.hd (fun z => by cases z))
          · refine List.mem_filter.mpr ⟨mem_here hr2 ?_, decide_eq_true (by rw [hrf]; exact hnot)⟩
            unfold HSt.up
            rw [hrf]; exact decide_eq_true hkt
          · have hb2 : b ≠ s.t ∧ b ≠ s.hd := by simpa using hb
            exact k4 b o ((upd_ne hb2.1).trans (k3 b o eb hb)) (by simpa using hb2.2)
          · exact k4 _ _ ((upd_ne Dt).trans eD3) (by simpa using Dh)
          · rw [k4 _ _ upd_same (by simpa using th)]
            unfold taken
            rw [foldl_more _ hk, List.map_set]; rfl
          · rw [eh4, List.filter_filter]
            congr 3
            refine List.filter_congr fun r _ => ?_
            rw [List.take_succ_eq_append_getElem hi, ei]
            rw [Bool.eq_iff_iff, Bool.and_eq_true, decide_eq_true_eq, decide_eq_true_eq, decide_eq_true_eq, List.mem_append, List.mem_singleton, not_or]
            exact and_comm
      · rintro σ H3 ⟨v, rfl, k3, eD3, et3, eh3⟩
        rw [List.length_map, List.take_length] at et3 eh3
        exact ⟨_, rfl, q D H3 hDH k3 (ho.ended k3 et3 eh3) eD3⟩
end

end Lw
namespace Lw
open PySem PySem.Spec L2 FG
open PyProof.Rows hiding St
/-! ### the limit, the greatest -/
def spLimit (K : PySem.W.Frag) : Sp := fun vs H Q _ => ∃ s : HSt, vs = [.ref s.p] ∧ HoAt (CH K) H s ∧ Q (nint s.most) H
def spGreatest (K : PySem.W.Frag) : Sp := fun vs H Q _ => ∃ s : HSt, vs = [.ref s.p] ∧ HoAt (CH K) H s ∧ Q (nint s.top) H
section
variable {P : Program} {w : World} {K : PySem.W.Frag} {mg : Str → Option Value} {base : Heap}
theorem ok_limit (T : Tx K mg) {fd : FuncData} {f : Addr} (F : Fun K "limit" "House.limit" s_House_limit f fd) : FnG P w K mg base 1 f fd ["self"] (spLimit K) := by
  refine FnG.of F sc_House_limit (fun vs H Q E h => ?_) (fun cdv A outer sh H vs Q E hr h => ?_)
  · obtain ⟨s, rfl, _⟩ := h; rfl
  · obtain ⟨s, rfl, ho, q⟩ := h
    obtain ⟨dx, fs, e, ff, hf⟩ := ho.ob
    refine ⟨_, pss_one (ps_ret (kfld K (pv 0))), ?_⟩
    exact ⟨_, rfl, s.p, CH K, dx, fs, _, rfl, e, T.c_House, T.n_House_most, hf.most, q⟩
theorem ok_greatest (T : Tx K mg) {fd : FuncData} {f : Addr} (F : Fun K "greatest" "House.greatest" s_House_greatest f fd) : FnG P w K mg base 1 f fd ["self"] (spGreatest K) := by
  refine FnG.of F sc_House_greatest (fun vs H Q E h => ?_) (fun cdv A outer sh H vs Q E hr h => ?_)
  · obtain ⟨s, rfl, _⟩ := h; rfl
  · obtain ⟨s, rfl, ho, q⟩ := h
    obtain ⟨dx, fs, e, ff, hf⟩ := ho.ob
    refine ⟨_, pss_one (ps_ret (kfld K (pv 0))), ?_⟩
    exact ⟨_, rfl, s.p, CH K, dx, fs, _, rfl, e, T.c_House, T.n_House_top, hf.top, q⟩
end

end Lw
namespace Lw
open PySem PySem.Spec L2 FG
open PyProof.Rows hiding St
/-! ### small things about frames and their texts -/
/-- those that take are small -/
def TOk (ts : List (Option Int)) : Prop := ∀ i, some i ∈ ts → i.natAbs < 1000
theorem TOk.more {ts : List (Option Int)} (h : TOk ts) : TOk (ts ++ [none]) := fun i hi => by
  rcases List.mem_append.mp hi with z | z
  · exact h i z
  · simp at z
theorem TOk.taken {f : Nat} (hf : f < 1000) : ∀ (ks : List Nat) {ts : List (Option Int)}, TOk ts → TOk (taken ts ks f) := by
  intro ks
  induction ks with
  | nil => intro ts h; exact h
  | cons k ks ih =>
    intro ts h
    refine ih (ts := ts.set k (some (f : Int))) fun i hi => ?_
    rcases List.mem_or_eq_of_mem_set hi with z | z
    · exact h i z
    · cases z; omega
theorem taken_out {f : Nat} : ∀ (ks : List Nat) (ts : List (Option Int)) (i : Nat), i ∉ ks → (taken ts ks f)[i]? = ts[i]? := by
  intro ks
  induction ks with
  | nil => intro ts i _; rfl
  | cons k ks ih =>
    intro ts i h
    have h2 : ¬ i = k ∧ i ∉ ks := by simpa using h
    exact (ih _ i h2.2).trans (List.getElem?_set_ne (Ne.symm h2.1))
theorem ground_stays {hs ts : List (Option Int)} (w : Wf hs ts) (g : ts[0]? = some none) {f : Nat} (hf : 0 < f) : (taken ts (fin hs ts f) f)[0]? = some none := by
  rw [taken_out]
  · exact g
  · intro h
    unfold fin at h
    have h2 := of_decide_eq_true (List.mem_filter.mp h).2
    rw [row_root w] at h2
    simp at h2; omega
theorem and_if {c d : Bool} {X A B : Prop} (hX : (if d = true then A else B) → X) (h1 : c = true → d = true → A) (h2 : (c && d) = false → B) : if c = true then X else (if false = true then A else B) := by
  cases c with
  | false => exact iteF (iteF (h2 rfl))
  | true =>
    refine iteT (hX ?_)
    cases d with
    | false => exact iteF (h2 rfl)
    | true => exact iteT (h1 rfl rfl)
theorem or_no {c d : Bool} {X A B : Prop} (hX : (if d = true then A else B) → X) (hc : c = false) (hd : d = false) (h : B) : if c = true then (if true = true then A else B) else X := by
  subst hc hd
  exact iteF (hX (iteF h))
def pnint (n : Nat) : PyData := .int (n : Int)
theorem shw_nints {K : PySem.W.Frag} {l : Addr} {xs : List Nat} {H : Hp} (e : H l = some (.lst (xs.map nint))) (hx : ∀ x ∈ xs, x < 10000) (hl : xs.length ≤ 10000) : Shw K H (.ref l) (.list (xs.map pnint)) := by
  refine shw_at (.lst (SqL.of e) (dp_nint K H xs)) ?_ ?_ ?_
  · simp only [okD]
    refine okDs_of fun d hd => ?_
    obtain ⟨x, h, rfl⟩ := List.mem_map.mp hd
    have := hx x h
    have e1 : (10 : Nat) ^ 38 = 100000000000000000000000000000000000000 := by decide
    simp only [pnint, okD, decide_eq_true_eq, e1]; omega
  · simp only [PyData.bulk]
    rw [bulk_flat fun d hd => by obtain ⟨x, _, rfl⟩ := List.mem_map.mp hd; simp only [pnint, PyData.bulk], List.length_map]; omega
  · simp only [PyData.depth]
    rw [depth_flat fun d hd => by obtain ⟨x, _, rfl⟩ := List.mem_map.mp hd; simp only [pnint, PyData.depth]]; omega
theorem stand_lt {ts : List (Option Int)} {x : Nat} (h : x ∈ stand ts) : x < ts.length := (List.getElem?_eq_some_iff.mp (mem_stand.mp h)).1
theorem fin_lt {hs ts : List (Option Int)} {f x : Nat} (h : x ∈ fin hs ts f) : x < ts.length := (List.getElem?_eq_some_iff.mp (fin_stand h)).1

end Lw
namespace Lw
open PySem PySem.Spec L2 FG
open PyProof.Rows hiding St
/-! ### the law's own rows of a house (a world) as plain data -/
theorem nk {a b : Str} (h : ¬ a = b) : ¬ (Sum.inr a : L2.Key) = Sum.inr b := fun z => h (by injection z)
theorem up_enc {ts : List (Option Int)} {i : Nat} (h : i < ts.length) : decide (enc ts[i] = V.non) = decide (ts[i]? = some none) := by
  rw [List.getElem?_eq_getElem h]
  cases ts[i] <;> simp [enc]
structure WSt where
  (m a b r g c n : Addr) (rl : List Addr) (hs ts : List (Option Int)) (rs : List Rm) (gone : List Addr) (lim top : Nat)
def WSt.kv (x : WSt) : List (L2.Key × V) := [(.inr "limit", nint x.lim), (.inr "around", .ref x.a), (.inr "by", .ref x.b), (.inr "rooms", .ref x.r), (.inr "given", .ref x.g), (.inr "cells", .ref x.c), (.inr "gone", .ref x.n), (.inr "top", nint x.top)]
def WSt.up (x : WSt) (r : Rm) : Bool := decide (x.ts[r.f]? = some none)
def WSt.giv (x : WSt) (f : Nat) : List Rm := x.rs.filter fun r => decide (r.f = f)
def WSt.here (x : WSt) : List Rm := x.rs.filter x.up
def WSt.base (x : WSt) : List Addr := [x.m, x.a, x.b, x.r, x.g, x.c, x.n]
def WSt.foot (x : WSt) : List Addr := (x.base ++ x.rl) ++ x.here.map (·.c)
structure WAt (H : Hp) (x : WSt) : Prop where
  d : H x.m = some (.dK x.kv)
  lh : H x.a = some (.lst (x.hs.map enc))
  lt : H x.b = some (.lst (x.ts.map enc))
  lr : H x.r = some (.lst (x.rl.map V.ref))
  ll : ∀ f l, x.rl[f]? = some l → H l = some (.lst ((x.giv f).map fun r => V.ref r.w))
  rn : x.rl.length = x.hs.length
  lg : H x.g = some (.lst ((List.range x.hs.length).map fun f => nint (szs (x.giv f))))
  lc : H x.c = some (.dT (hdL x.here))
  ln : H x.n = some (.lst (x.gone.map V.ref))
  cl : ∀ r ∈ x.here, H r.c = some (.lst r.cells)
  wl : ∀ r ∈ x.rs, H r.w = some (.tup [.int (r.f : Int), .int (r.o : Int)])
  go : ∀ w ∈ x.gone, ∃ r ∈ x.rs, r.w = w
  gc : x.gone.length + x.here.length = x.rs.length
  nd : x.foot.Nodup
  wf : Wf x.hs x.ts
  kn : (x.rs.map pk).Nodup
  fl : ∀ r ∈ x.rs, r.f < x.hs.length
theorem WSt.fb (x : WSt) : ∀ a ∈ x.base, a ∈ x.foot := fun a h => List.mem_append_left _ (List.mem_append_left _ h)
theorem WSt.fl (x : WSt) : ∀ a ∈ x.rl, a ∈ x.foot := fun a h => List.mem_append_left _ (List.mem_append_right _ h)
theorem WSt.fc (x : WSt) : ∀ r ∈ x.here, r.c ∈ x.foot := fun r h => List.mem_append_right _ (List.mem_map.mpr ⟨r, h, rfl⟩)
theorem WSt.m_ (x : WSt) : x.m ∈ x.base := by simp [WSt.base]
theorem WSt.a_ (x : WSt) : x.a ∈ x.base := by simp [WSt.base]
theorem WSt.b_ (x : WSt) : x.b ∈ x.base := by simp [WSt.base]
theorem WSt.r_ (x : WSt) : x.r ∈ x.base := by simp [WSt.base]
theorem WSt.g_ (x : WSt) : x.g ∈ x.base := by simp [WSt.base]
theorem WSt.c_ (x : WSt) : x.c ∈ x.base := by simp [WSt.base]
theorem WSt.n_ (x : WSt) : x.n ∈ x.base := by simp [WSt.base]
theorem WAt.std {H : Hp} {x : WSt} (y : WAt H x) : ∀ a ∈ x.foot, ∃ o, H a = some o ∧ (∀ xs, o ≠ .tup xs) ∧ (∀ b v, o ≠ .frz b v) := fun a ha => by
  rcases List.mem_append.mp ha with h | h
  · rcases List.mem_append.mp h with h | h
    · simp only [WSt.base, List.mem_cons, List.not_mem_nil, or_false] at h
      rcases h with rfl | rfl | rfl | rfl | rfl | rfl | rfl
      · exact ⟨_, y.d, (fun _ z => by cases z), (fun _ _ z => by cases z)⟩
      · exact ⟨_, y.lh, (fun _ z => by cases z), (fun _ _ z => by cases z)⟩
      · exact ⟨_, y.lt, (fun _ z => by cases z), (fun _ _ z => by cases z)⟩
      · exact ⟨_, y.lr, (fun _ z => by cases z), (fun _ _ z => by cases z)⟩
      · exact ⟨_, y.lg, (fun _ z => by cases z), (fun _ _ z => by cases z)⟩
      · exact ⟨_, y.lc, (fun _ z => by cases z), (fun _ _ z => by cases z)⟩
      · exact ⟨_, y.ln, (fun _ z => by cases z), (fun _ _ z => by cases z)⟩
    · obtain ⟨i, hi⟩ := List.getElem?_of_mem h
      exact ⟨_, y.ll i a hi, (fun _ z => by cases z), (fun _ _ z => by cases z)⟩
  · obtain ⟨r, hr, rfl⟩ := List.mem_map.mp h
    exact ⟨_, y.cl r hr, (fun _ z => by cases z), (fun _ _ z => by cases z)⟩
theorem WAt.kp {S : List Addr} {H H' : Hp} {x : WSt} (y : WAt H x) (k : Kp S H H') (hF : ∀ a ∈ S, a ∉ x.foot) (hT : ∀ a ∈ S, ∀ xs, H a ≠ some (.tup xs)) : WAt H' x := by
  have m : ∀ {a o}, H a = some o → a ∈ x.foot → H' a = some o := fun {a o} e h => k a o e fun z => hF a z h
  exact ⟨m y.d (x.fb _ x.m_), m y.lh (x.fb _ x.a_), m y.lt (x.fb _ x.b_), m y.lr (x.fb _ x.r_), fun f l e => m (y.ll f l e) (x.fl l (List.mem_of_getElem? e)), y.rn, m y.lg (x.fb _ x.g_), m y.lc (x.fb _ x.c_), m y.ln (x.fb _ x.n_),
    fun r hr => m (y.cl r hr) (x.fc r hr), fun r hr => k _ _ (y.wl r hr) fun z => hT _ z _ (y.wl r hr), y.go, y.gc, y.nd, y.wf, y.kn, y.fl⟩
theorem WAt.kp0 {H H' : Hp} {x : WSt} (y : WAt H x) (k : Kp [] H H') : WAt H' x := y.kp k (fun _ z => by cases z) (fun _ z => by cases z)
theorem WSt.v0 (x : WSt) : valV x.kv (Sum.inr ("limit" : Str)) = some (nint x.lim) := valV_pos rfl
theorem WSt.v1 (x : WSt) : valV x.kv (Sum.inr ("around" : Str)) = some (.ref x.a) := by
  unfold WSt.kv
  iterate 1 rw [valV_neg (nk (by decide +kernel))]
  exact valV_pos rfl
theorem WSt.v2 (x : WSt) : valV x.kv (Sum.inr ("by" : Str)) = some (.ref x.b) := by
  unfold WSt.kv
  iterate 2 rw [valV_neg (nk (by decide +kernel))]
  exact valV_pos rfl
theorem WSt.v3 (x : WSt) : valV x.kv (Sum.inr ("rooms" : Str)) = some (.ref x.r) := by
  unfold WSt.kv
  iterate 3 rw [valV_neg (nk (by decide +kernel))]
  exact valV_pos rfl
theorem WSt.v4 (x : WSt) : valV x.kv (Sum.inr ("given" : Str)) = some (.ref x.g) := by
  unfold WSt.kv
  iterate 4 rw [valV_neg (nk (by decide +kernel))]
  exact valV_pos rfl
theorem WSt.v5 (x : WSt) : valV x.kv (Sum.inr ("cells" : Str)) = some (.ref x.c) := by
  unfold WSt.kv
  iterate 5 rw [valV_neg (nk (by decide +kernel))]
  exact valV_pos rfl
theorem WSt.v6 (x : WSt) : valV x.kv (Sum.inr ("gone" : Str)) = some (.ref x.n) := by
  unfold WSt.kv
  iterate 6 rw [valV_neg (nk (by decide +kernel))]
  exact valV_pos rfl
theorem WSt.v7 (x : WSt) : valV x.kv (Sum.inr ("top" : Str)) = some (nint x.top) := by
  unfold WSt.kv
  iterate 7 rw [valV_neg (nk (by decide +kernel))]
  exact valV_pos rfl
theorem WSt.putTop (x : WSt) (n : Nat) : putK x.kv (Sum.inr ("top" : Str)) (nint n) = ({ x with top := n } : WSt).kv := by
  have a0 : ¬ (Sum.inr ("limit" : Str) : L2.Key) = Sum.inr ("top" : Str) := nk (by decide +kernel)
  have a1 : ¬ (Sum.inr ("around" : Str) : L2.Key) = Sum.inr ("top" : Str) := nk (by decide +kernel)
  have a2 : ¬ (Sum.inr ("by" : Str) : L2.Key) = Sum.inr ("top" : Str) := nk (by decide +kernel)
  have a3 : ¬ (Sum.inr ("rooms" : Str) : L2.Key) = Sum.inr ("top" : Str) := nk (by decide +kernel)
  have a4 : ¬ (Sum.inr ("given" : Str) : L2.Key) = Sum.inr ("top" : Str) := nk (by decide +kernel)
  have a5 : ¬ (Sum.inr ("cells" : Str) : L2.Key) = Sum.inr ("top" : Str) := nk (by decide +kernel)
  have a6 : ¬ (Sum.inr ("gone" : Str) : L2.Key) = Sum.inr ("top" : Str) := nk (by decide +kernel)
  unfold putK WSt.kv
  simp [a0, a1, a2, a3, a4, a5, a6]
section
variable {H : Hp} {x : WSt}
theorem dg_at {m : Addr} {kv : List (L2.Key × V)} {k : Str} {v : V} (d : H m = some (.dK kv)) (h : valV kv (Sum.inr k) = some v) : DGet H m (.str k) (some v) := by
  have z := DGet.k (k := Sum.inr k) d
  rw [h] at z; exact z
theorem WAt.get0 (y : WAt H x) : DGet H x.m (.str "limit") (some (nint x.lim)) := dg_at y.d x.v0
theorem WAt.get1 (y : WAt H x) : DGet H x.m (.str "around") (some (.ref x.a)) := dg_at y.d x.v1
theorem WAt.get2 (y : WAt H x) : DGet H x.m (.str "by") (some (.ref x.b)) := dg_at y.d x.v2
theorem WAt.get3 (y : WAt H x) : DGet H x.m (.str "rooms") (some (.ref x.r)) := dg_at y.d x.v3
theorem WAt.get4 (y : WAt H x) : DGet H x.m (.str "given") (some (.ref x.g)) := dg_at y.d x.v4
theorem WAt.get5 (y : WAt H x) : DGet H x.m (.str "cells") (some (.ref x.c)) := dg_at y.d x.v5
theorem WAt.get6 (y : WAt H x) : DGet H x.m (.str "gone") (some (.ref x.n)) := dg_at y.d x.v6
theorem WAt.get7 (y : WAt H x) : DGet H x.m (.str "top") (some (nint x.top)) := dg_at y.d x.v7
theorem kkn_of {l : List Rm} (h : (l.map pk).Nodup) : (l.map Rm.key).Nodup := by
  have e : l.map Rm.key = (l.map pk).map fun z => ([.inl (z.1 : Int), .inl (z.2 : Int)] : List L2.Key) := by
    rw [List.map_map]; rfl
  rw [e]
  refine nd_map (fun a b h => ?_) h
  injection h with h1 h2
  injection h1 with h1
  injection h2 with h2 _
  injection h2 with h2
  exact Prod.ext (by omega) (by omega)
theorem WSt.sub (x : WSt) : x.here.Sublist x.rs := List.filter_sublist
theorem WAt.hkn (y : WAt H x) : (x.here.map Rm.key).Nodup := kkn_of ((x.sub.map _).nodup y.kn)
theorem WAt.getR (y : WAt H x) {r : Rm} (hr : r ∈ x.here) {q : Addr} (eq : H q = some (.tup [.int (r.f : Int), .int (r.o : Int)])) : DGet H x.c (.ref q) (some (.ref r.c)) := by
  have z := DGet.t (k := r.key) y.lc (b := q) eq
  have e : valV (hdL x.here) r.key = some (.ref r.c) := val_nodup (by rw [hdL_keys]; exact y.hkn) (r.key, .ref r.c) (List.mem_map.mpr ⟨r, hr, rfl⟩)
  rw [e] at z; exact z
theorem mem_whr {r : Rm} : r ∈ x.here ↔ r ∈ x.rs ∧ x.ts[r.f]? = some none := by
  unfold WSt.here
  rw [List.mem_filter]
  unfold WSt.up
  rw [decide_eq_true_eq]
theorem WAt.same (y : WAt H x) {r q : Rm} (hr : r ∈ x.rs) (hq : q ∈ x.rs) (e1 : r.f = q.f) (e2 : r.o = q.o) : r = q := by
  have key : ∀ {l : List Rm}, (l.map pk).Nodup → r ∈ l → q ∈ l → r = q := by
    intro l
    induction l with
    | nil => intro _ h; cases h
    | cons a l ih =>
      intro h h1 h2
      rw [List.map_cons, List.nodup_cons] at h
      rcases List.mem_cons.mp h1 with z1 | z1
      · rcases List.mem_cons.mp h2 with z2 | z2
        · rw [z1, z2]
        · exact absurd (List.mem_map.mpr ⟨q, z2, by rw [← z1]; exact Prod.ext e1.symm e2.symm⟩) h.1
      · rcases List.mem_cons.mp h2 with z2 | z2
        · exact absurd (List.mem_map.mpr ⟨r, z1, by rw [← z2]; exact Prod.ext e1 e2⟩) h.1
        · exact ih h.2 z1 z2
  exact key y.kn hr hq
end
/-! distinct things of a foot -/
theorem nd_app {A B : List Addr} (h : (A ++ B).Nodup) {a b : Addr} (ha : a ∈ A) (hb : b ∈ B) : a ≠ b := (List.nodup_append.mp h).2.2 a ha b hb
theorem WAt.base_rl {H : Hp} {x : WSt} (y : WAt H x) {a l : Addr} (ha : a ∈ x.base) (hl : l ∈ x.rl) : a ≠ l := nd_app (List.nodup_append.mp y.nd).1 ha hl
theorem WAt.base_c {H : Hp} {x : WSt} (y : WAt H x) {a : Addr} {r : Rm} (ha : a ∈ x.base) (hr : r ∈ x.here) : a ≠ r.c := nd_app y.nd (List.mem_append_left _ ha) (List.mem_map.mpr ⟨r, hr, rfl⟩)
theorem WAt.rl_c {H : Hp} {x : WSt} (y : WAt H x) {l : Addr} {r : Rm} (hl : l ∈ x.rl) (hr : r ∈ x.here) : l ≠ r.c := nd_app y.nd (List.mem_append_right _ hl) (List.mem_map.mpr ⟨r, hr, rfl⟩)
theorem WAt.bnd {H : Hp} {x : WSt} (y : WAt H x) : x.base.Nodup := (List.nodup_append.mp (List.nodup_append.mp y.nd).1).1
theorem WAt.rnd {H : Hp} {x : WSt} (y : WAt H x) : x.rl.Nodup := (List.nodup_append.mp (List.nodup_append.mp y.nd).1).2.1
theorem WAt.cnd {H : Hp} {x : WSt} (y : WAt H x) : (x.here.map (·.c)).Nodup := (List.nodup_append.mp y.nd).2.1
theorem WAt.c_ne {H : Hp} {x : WSt} (y : WAt H x) {r q : Rm} (hr : r ∈ x.here) (hq : q ∈ x.here) (n : r ≠ q) : r.c ≠ q.c := by
  have key : ∀ {l : List Rm}, (l.map (·.c)).Nodup → r ∈ l → q ∈ l → r.c ≠ q.c := by
    intro l
    induction l with
    | nil => intro _ h; cases h
    | cons a l ih =>
      intro h h1 h2 e
      rw [List.map_cons, List.nodup_cons] at h
      rcases List.mem_cons.mp h1 with z1 | z1
      · rcases List.mem_cons.mp h2 with z2 | z2
        · exact n (z1.trans z2.symm)
        · exact h.1 (List.mem_map.mpr ⟨q, z2, by rw [← z1]; exact e.symm⟩)
      · rcases List.mem_cons.mp h2 with z2 | z2
        · exact h.1 (List.mem_map.mpr ⟨r, z1, by rw [← z2]; exact e⟩)
        · exact ih h.2 z1 z2 e
  exact key y.cnd hr hq
theorem WAt.l_ne {H : Hp} {x : WSt} (y : WAt H x) {i j : Nat} {a b : Addr} (hi : x.rl[i]? = some a) (hj : x.rl[j]? = some b) (n : i ≠ j) : a ≠ b := fun e => by
  subst e
  exact n ((List.getElem?_inj (List.getElem?_eq_some_iff.mp hi).1 y.rnd).mp (hi.trans hj.symm))

end Lw
namespace Lw
open PySem PySem.Spec L2 FG
open PyProof.Rows hiding St
/-! ### what deeds do to a world -/
def WSt.begun (x : WSt) (f : Nat) (l : Addr) : WSt := { x with hs := x.hs ++ [some (f : Int)], ts := x.ts ++ [none], rl := x.rl ++ [l] }
def WSt.made (x : WSt) (f k t : Nat) (c w : Addr) : WSt := { x with rs := x.rs ++ [⟨f, szs (x.giv f), List.replicate k .non, c, w⟩], top := t }
def WSt.ended (x : WSt) (ts : List (Option Int)) (gone : List Addr) : WSt := { x with ts := ts, gone := gone }
def WSt.setc (x : WSt) (f o k : Nat) (v : V) : WSt := { x with rs := x.rs.map (setR f o k v) }
theorem wbegun_here {H : Hp} {x : WSt} (y : WAt H x) (f : Nat) (l : Addr) : (x.begun f l).here = x.here := by
  unfold WSt.here WSt.begun
  refine List.filter_congr fun r hr => ?_
  have h1 := y.fl r hr
  have h2 := y.wf.len
  unfold WSt.up
  show decide ((x.ts ++ [none])[r.f]? = some none) = decide (x.ts[r.f]? = some none)
  rw [List.getElem?_append_left (by omega)]
theorem WAt.begun {H H' : Hp} {x : WSt} {f : Nat} {l : Addr} (y : WAt H x) (k : Kp [x.a, x.b, x.r, x.g] H H') (ea : H' x.a = some (.lst ((x.hs ++ [some (f : Int)]).map enc))) (eb : H' x.b = some (.lst ((x.ts ++ [none]).map enc)))
    (er : H' x.r = some (.lst ((x.rl ++ [l]).map V.ref))) (eg : H' x.g = some (.lst (((List.range x.hs.length).map fun f => nint (szs (x.giv f))) ++ [nint 0]))) (el : H' l = some (.lst [])) (hl : H l = none) (hf : f < x.hs.length) (h100 : x.hs.length ≤ 100) :
    WAt H' (x.begun f l) ∧ ∀ a ∈ (x.begun f l).foot, a ∈ x.foot ∨ a = l := by
  have bn := y.bnd
  simp only [WSt.base, List.nodup_cons, List.mem_cons, List.not_mem_nil, or_false, not_or] at bn
  obtain ⟨⟨m1, m2, m3, m4, m5, m6⟩, ⟨a1, a2, a3, a4, a5⟩, ⟨b1, b2, b3, b4⟩, ⟨r1, r2, r3⟩, ⟨g1, g2⟩, c1, _⟩ := bn
  have inb : ∀ a ∈ [x.a, x.b, x.r, x.g], a ∈ x.base := fun a h => by
    simp only [List.mem_cons, List.not_mem_nil, or_false] at h
    rcases h with rfl | rfl | rfl | rfl <;> simp [WSt.base]
  have kb : ∀ {b o}, H b = some o → b ∉ [x.a, x.b, x.r, x.g] → H' b = some o := fun e h => k _ _ e h
  have om : x.m ∉ [x.a, x.b, x.r, x.g] := by simp [m1, m2, m3, m4]
  have oc : x.c ∉ [x.a, x.b, x.r, x.g] := by simp [Ne.symm a4, Ne.symm b3, Ne.symm r2, Ne.symm g1]
  have on : x.n ∉ [x.a, x.b, x.r, x.g] := by simp [Ne.symm a5, Ne.symm b4, Ne.symm r3, Ne.symm g2]
  have nl : l ∉ x.foot := fun z => by obtain ⟨o, e, _⟩ := y.std l z; rw [hl] at e; cases e
  have eh := wbegun_here y f l
  have eg0 : (x.begun f l).giv x.hs.length = [] := by
    show x.rs.filter _ = []
    rw [List.filter_eq_nil_iff]
    intro r hr z
    have := y.fl r hr
    have := of_decide_eq_true z
    omega
  refine ⟨⟨kb y.d om, ea, eb, er, fun i l' e => ?_, ?_, ?_, ?_, kb y.ln on, fun r hr => ?_, fun r hr => kb (y.wl r hr) ?_, y.go, by rw [eh]; exact y.gc, ?_, y.wf.begun hf h100, y.kn, fun r hr => ?_⟩, fun a ha => ?_⟩
  · have e' : (x.rl ++ [l])[i]? = some l' := e
    by_cases hi : i < x.rl.length
    · rw [List.getElem?_append_left hi] at e'
      exact kb (y.ll i l' e') fun z => absurd rfl (y.base_rl (inb _ z) (List.mem_of_getElem? e'))
    · rw [List.getElem?_append_right (by omega)] at e'
      have hi2 : i = x.rl.length := by
        cases hd : i - x.rl.length with
        | zero => omega
        | succ m => rw [hd] at e'; cases e'
      subst hi2
      rw [Nat.sub_self] at e'
      injection e' with e'
      subst e'
      rw [y.rn, eg0]; exact el
  · show (x.rl ++ [l]).length = (x.hs ++ [some (f : Int)]).length
    rw [List.length_append, List.length_append, y.rn]; rfl
  · show H' x.g = some (.lst ((List.range (x.hs ++ [some (f : Int)]).length).map fun f' => nint (szs ((x.begun f l).giv f'))))
    rw [eg, List.length_append, List.length_singleton, List.range_succ, List.map_append]
    congr 3
    show [nint 0] = [nint (szs ((x.begun f l).giv x.hs.length))]
    rw [eg0]; rfl
  · show H' x.c = some (.dT (hdL (x.begun f l).here))
    rw [eh]; exact kb y.lc oc
  · rw [eh] at hr
    exact kb (y.cl r hr) fun z => absurd rfl (y.base_c (inb _ z) hr)
  · intro z
    obtain ⟨o, e, n, _⟩ := y.std _ (x.fb _ (inb _ z))
    rw [y.wl r hr] at e
    exact n _ (Option.some.inj e).symm
  · show ((x.base ++ (x.rl ++ [l])) ++ (x.begun f l).here.map (·.c)).Nodup
    rw [eh, ← List.append_assoc x.base]
    have e2 : ((x.base ++ x.rl) ++ [l]) ++ x.here.map (·.c) = (x.base ++ x.rl) ++ l :: x.here.map (·.c) := by simp
    rw [e2]
    exact (List.perm_middle.nodup_iff).mpr (List.nodup_cons.mpr ⟨nl, y.nd⟩)
  · show r.f < (x.hs ++ [some (f : Int)]).length
    have := y.fl r hr
    rw [List.length_append]; omega
  · have ha' : a ∈ (x.base ++ (x.rl ++ [l])) ++ (x.begun f l).here.map (·.c) := ha
    rw [eh] at ha'
    simp only [List.mem_append, List.mem_singleton] at ha'
    rcases ha' with (z | z | z) | z
    · exact .inl (x.fb _ z)
    · exact .inl (x.fl _ z)
    · exact .inr z
    · exact .inl (List.mem_append_right _ z)
theorem wmade_here {x : WSt} {f k t : Nat} {c w : Addr} (h : x.ts[f]? = some none) : (x.made f k t c w).here = x.here ++ [⟨f, szs (x.giv f), List.replicate k .non, c, w⟩] := by
  unfold WSt.here WSt.made
  rw [List.filter_append]
  congr 1
  show List.filter (fun r : Rm => decide (x.ts[r.f]? = some none)) [(⟨f, szs (x.giv f), List.replicate k .non, c, w⟩ : Rm)] = _
  simp [h]
theorem wmade_giv {x : WSt} {f k t : Nat} {c w : Addr} (g : Nat) : (x.made f k t c w).giv g = x.giv g ++ if f = g then [⟨f, szs (x.giv f), List.replicate k .non, c, w⟩] else [] := by
  unfold WSt.giv WSt.made
  rw [List.filter_append]
  congr 1
  by_cases e : f = g
  · subst e; simp [WSt.giv]
  · simp [e]
theorem szs_snoc (l : List Rm) (r : Rm) : szs (l ++ [r]) = szs l + r.cells.length := by rw [szs_app]; simp [szs]
theorem hd_put {l : List Rm} {f o : Nat} {c w : Addr} {k : Nat} (h : ∀ r ∈ l, ¬ (r.f = f ∧ r.o = o)) : putK (hdL l) [.inl (f : Int), .inl (o : Int)] (.ref c) = hdL (l ++ [⟨f, o, List.replicate k .non, c, w⟩]) := by
  rw [putK_new]
  · unfold hdL; rw [List.map_append]; rfl
  · refine valV_no fun z => ?_
    rw [hdL_keys, List.mem_map] at z
    obtain ⟨r, hr, e⟩ := z
    refine h r hr ?_
    unfold Rm.key at e
    injection e with e1 e2
    injection e1 with e1
    injection e2 with e2 _
    injection e2 with e2
    omega
/-- a room made: its frame's list at l -/
theorem WAt.made {H H' : Hp} {x : WSt} {f k t : Nat} {c w l : Addr} (y : WAt H x) (hl : x.rl[f]? = some l) (kp : Kp [x.m, l, x.g, x.c] H H') (hc : H c = none) (hup : x.ts[f]? = some none)
    (em : H' x.m = some (.dK ({ x with top := t } : WSt).kv)) (el : H' l = some (.lst (((x.giv f).map fun r => V.ref r.w) ++ [.ref w]))) (eg : H' x.g = some (.lst (((List.range x.hs.length).map fun f => nint (szs (x.giv f))).set f (nint (szs (x.giv f) + k)))))
    (ec : H' x.c = some (.dT (hdL (x.here ++ [⟨f, szs (x.giv f), List.replicate k .non, c, w⟩])))) (ecc : H' c = some (.lst (List.replicate k .non))) (ew : H' w = some (.tup [.int (f : Int), .int (szs (x.giv f) : Int)]))
    (fr : ∀ r ∈ x.rs, ¬ (r.f = f ∧ r.o = szs (x.giv f))) : WAt H' (x.made f k t c w) ∧ ∀ a ∈ (x.made f k t c w).foot, a ∈ x.foot ∨ a = c := by
  have bn := y.bnd
  simp only [WSt.base, List.nodup_cons, List.mem_cons, List.not_mem_nil, or_false, not_or] at bn
  obtain ⟨⟨m1, m2, m3, m4, m5, m6⟩, ⟨a1, a2, a3, a4, a5⟩, ⟨b1, b2, b3, b4⟩, ⟨r1, r2, r3⟩, ⟨g1, g2⟩, c1, _⟩ := bn
  have hlm := List.mem_of_getElem? hl
  have bl : ∀ a ∈ x.base, a ≠ l := fun a ha => y.base_rl ha hlm
  have hff := (List.getElem?_eq_some_iff.mp hl).1
  have eh : (x.made f k t c w).here = _ := wmade_here (k := k) (t := t) (c := c) (w := w) hup
  have nc : c ∉ x.foot := fun z => by obtain ⟨o, e, _⟩ := y.std c z; rw [hc] at e; cases e
  have kb : ∀ {b o}, H b = some o → b ≠ x.m → b ≠ l → b ≠ x.g → b ≠ x.c → H' b = some o := fun e h1 h2 h3 h4 => kp _ _ e (by simp [h1, h2, h3, h4])
  have ktp : ∀ {b xs}, H b = some (.tup xs) → H' b = some (.tup xs) := fun {b xs} e => kp _ _ e fun z => by
    have hz : b ∈ x.foot := by
      simp only [List.mem_cons, List.not_mem_nil, or_false] at z
      rcases z with rfl | rfl | rfl | rfl
      · exact x.fb _ x.m_
      · exact x.fl _ hlm
      · exact x.fb _ x.g_
      · exact x.fb _ x.c_
    obtain ⟨o, e2, n, _⟩ := y.std _ hz
    rw [e] at e2; exact n _ (Option.some.inj e2).symm
  refine ⟨⟨em, kb y.lh (Ne.symm m1) (bl _ x.a_) a3 a4, kb y.lt (Ne.symm m2) (bl _ x.b_) b2 b3, kb y.lr (Ne.symm m3) (bl _ x.r_) r1 r2, fun i l' e => ?_, y.rn, ?_, ?_, kb y.ln (Ne.symm m6) (bl _ x.n_) (Ne.symm g2) (Ne.symm c1), fun r hr => ?_, fun r hr => ?_, fun w' hw => ?_, ?_, ?_, y.wf, ?_, fun r hr => ?_⟩, fun a ha => ?_⟩
  · have e' : x.rl[i]? = some l' := e
    rw [wmade_giv]
    by_cases hi : f = i
    · subst hi
      rw [hl] at e'
      injection e' with e'
      subst e'
      rw [if_pos rfl, List.map_append]; exact el
    · rw [if_neg hi, List.append_nil]
      have hl' := List.mem_of_getElem? e'
      exact kb (y.ll i l' e') (Ne.symm (y.base_rl x.m_ hl')) (y.l_ne e' hl fun z => hi z.symm) (Ne.symm (y.base_rl x.g_ hl')) (Ne.symm (y.base_rl x.c_ hl'))
  · show H' x.g = some (.lst ((List.range x.hs.length).map fun f' => nint (szs ((x.made f k t c w).giv f'))))
    rw [eg]
    congr 2
    refine List.ext_getElem? fun i => ?_
    rw [List.getElem?_set, List.getElem?_map, List.getElem?_map]
    have hfl : f < x.hs.length := by rw [← y.rn]; exact hff
    by_cases hi : f = i
    · subst hi
      rw [if_pos rfl, if_pos (by simpa using hfl), List.getElem?_range hfl]
      show some (nint (szs (x.giv f) + k)) = some (nint (szs ((x.made f k t c w).giv f)))
      rw [wmade_giv, if_pos rfl, szs_snoc]
      show some (nint (szs (x.giv f) + k)) = some (nint (szs (x.giv f) + (List.replicate k V.non).length))
      rw [List.length_replicate]
    · rw [if_neg hi]
      cases hr : (List.range x.hs.length)[i]? with
      | none => rfl
      | some j =>
        have hj : j = i := by
          have h1 := (List.getElem?_eq_some_iff.mp hr).1
          rw [List.getElem?_range (by simpa using h1)] at hr
          injection hr with hr; exact hr.symm
        subst hj
        show some (nint (szs (x.giv j))) = some (nint (szs ((x.made f k t c w).giv j)))
        rw [wmade_giv, if_neg hi, List.append_nil]
  · show H' x.c = some (.dT (hdL (x.made f k t c w).here)); rw [eh]; exact ec
  · rw [eh] at hr
    rcases List.mem_append.mp hr with z | z
    · exact kb (y.cl r z) (Ne.symm (y.base_c x.m_ z)) (Ne.symm (y.rl_c hlm z)) (Ne.symm (y.base_c x.g_ z)) (Ne.symm (y.base_c x.c_ z))
    · rw [List.mem_singleton] at z; subst z; exact ecc
  · have hr' : r ∈ x.rs ++ [_] := hr
    rcases List.mem_append.mp hr' with z | z
    · exact ktp (y.wl r z)
    · rw [List.mem_singleton] at z; subst z; exact ew
  · obtain ⟨r, hr, e⟩ := y.go w' hw
    exact ⟨r, List.mem_append_left _ hr, e⟩
  · show x.gone.length + (x.made f k t c w).here.length = (x.rs ++ [_]).length
    rw [eh, List.length_append, List.length_append, ← y.gc]; simp only [List.length_singleton]; omega
  · show ((x.base ++ x.rl) ++ (x.made f k t c w).here.map (·.c)).Nodup
    rw [eh, List.map_append, ← List.append_assoc]
    refine List.nodup_append.mpr ⟨y.nd, by simp, fun a ha b hb e => ?_⟩
    have hb2 : b = c := by simpa using hb
    rw [e, hb2] at ha
    exact nc ha
  · show ((x.rs ++ [(⟨f, szs (x.giv f), List.replicate k .non, c, w⟩ : Rm)]).map pk).Nodup
    rw [List.map_append]
    refine List.nodup_append.mpr ⟨y.kn, by simp, fun a ha b hb e => ?_⟩
    obtain ⟨r, hr, rfl⟩ := List.mem_map.mp ha
    have hb2 : b = (f, szs (x.giv f)) := by simpa [pk] using hb
    rw [hb2] at e
    exact fr r hr ⟨congrArg Prod.fst e, congrArg Prod.snd e⟩
  · have hr' : r ∈ x.rs ++ [_] := hr
    rcases List.mem_append.mp hr' with z | z
    · exact y.fl r z
    · rw [List.mem_singleton] at z; subst z
      show f < x.hs.length
      rw [← y.rn]; exact hff
  · have ha' : a ∈ (x.base ++ x.rl) ++ (x.made f k t c w).here.map (·.c) := ha
    rw [eh, List.map_append, ← List.append_assoc] at ha'
    rcases List.mem_append.mp ha' with z | z
    · exact .inl z
    · exact .inr (by simpa using z)
theorem wended_here (x : WSt) (ks : List Nat) (f : Nat) (gone : List Addr) : (x.ended (taken x.ts ks f) gone).here = x.here.filter fun r => decide (r.f ∉ ks) := by
  unfold WSt.here
  rw [List.filter_filter]
  refine List.filter_congr fun r _ => ?_
  show decide ((taken x.ts ks f)[r.f]? = some none) = (decide (r.f ∉ ks) && decide (x.ts[r.f]? = some none))
  rw [Bool.eq_iff_iff, decide_eq_true_eq, Bool.and_eq_true, decide_eq_true_eq, decide_eq_true_eq, taken_none]
  exact and_comm
theorem WAt.ended {H H' : Hp} {x : WSt} {ks : List Nat} {f : Nat} {gone : List Addr} (y : WAt H x) (k : Kp [x.b, x.c, x.n] H H') (eb : H' x.b = some (.lst ((taken x.ts ks f).map enc)))
    (ec : H' x.c = some (.dT (hdL (x.here.filter fun r => decide (r.f ∉ ks))))) (en : H' x.n = some (.lst (gone.map V.ref))) (hg : ∀ w ∈ gone, ∃ r ∈ x.rs, r.w = w) (hgc : gone.length + (x.here.filter fun r => decide (r.f ∉ ks)).length = x.rs.length) :
    WAt H' (x.ended (taken x.ts ks f) gone) ∧ ∀ a ∈ (x.ended (taken x.ts ks f) gone).foot, a ∈ x.foot := by
  have bn := y.bnd
  simp only [WSt.base, List.nodup_cons, List.mem_cons, List.not_mem_nil, or_false, not_or] at bn
  obtain ⟨⟨m1, m2, m3, m4, m5, m6⟩, ⟨a1, a2, a3, a4, a5⟩, ⟨b1, b2, b3, b4⟩, ⟨r1, r2, r3⟩, ⟨g1, g2⟩, c1, _⟩ := bn
  have hh := wended_here x ks f gone
  have sub : (x.ended (taken x.ts ks f) gone).here.Sublist x.here := by rw [hh]; exact List.filter_sublist
  have kb : ∀ {b o}, H b = some o → b ≠ x.b → b ≠ x.c → b ≠ x.n → H' b = some o := fun e h1 h2 h3 => k _ _ e (by simp [h1, h2, h3])
  have sf : (x.ended (taken x.ts ks f) gone).foot.Sublist x.foot := List.Sublist.append (List.Sublist.refl _) (sub.map _)
  refine ⟨⟨kb y.d m2 m5 m6, kb y.lh a1 a4 a5, eb, kb y.lr (Ne.symm b1) r2 r3, fun i l e => ?_, y.rn, kb y.lg (Ne.symm b2) g1 g2, by rw [hh]; exact ec, en, fun r hr => ?_, fun r hr => ?_, hg, by rw [hh]; exact hgc, sf.nodup y.nd, y.wf.taken ks f, y.kn, y.fl⟩, fun a ha => sf.subset ha⟩
  · have hl := List.mem_of_getElem? e
    exact kb (y.ll i l e) (Ne.symm (y.base_rl x.b_ hl)) (Ne.symm (y.base_rl x.c_ hl)) (Ne.symm (y.base_rl x.n_ hl))
  · have hr2 := sub.subset hr
    exact kb (y.cl r hr2) (Ne.symm (y.base_c x.b_ hr2)) (Ne.symm (y.base_c x.c_ hr2)) (Ne.symm (y.base_c x.n_ hr2))
  · refine k _ _ (y.wl r hr) fun z => ?_
    have hz : r.w ∈ x.base := by
      simp only [List.mem_cons, List.not_mem_nil, or_false] at z
      rcases z with z | z | z <;> rw [z] <;> simp [WSt.base]
    obtain ⟨o, e, n, _⟩ := y.std _ (x.fb _ hz)
    rw [y.wl r hr] at e
    exact n _ (Option.some.inj e).symm
theorem wset_here (x : WSt) (f o k : Nat) (v : V) : (x.setc f o k v).here = x.here.map (setR f o k v) := by
  unfold WSt.here WSt.setc
  rw [List.filter_map]
  congr 1
  refine List.filter_congr fun r _ => ?_
  show decide (x.ts[(setR f o k v r).f]? = some none) = decide (x.ts[r.f]? = some none)
  rw [(setR_eq f o k v r).1]
theorem wset_giv (x : WSt) (f o k : Nat) (v : V) (g : Nat) : (x.setc f o k v).giv g = (x.giv g).map (setR f o k v) := by
  unfold WSt.giv WSt.setc
  rw [List.filter_map]
  congr 1
  refine List.filter_congr fun r _ => ?_
  show decide ((setR f o k v r).f = g) = decide (r.f = g)
  rw [(setR_eq f o k v r).1]
theorem hdL_set (f o k : Nat) (v : V) (l : List Rm) : hdL (l.map (setR f o k v)) = hdL l :=
  map_set (fun r => (r.key, V.ref r.c)) f o k v (fun z => by obtain ⟨e1, e2, e3, _⟩ := setR_eq f o k v z; unfold Rm.key; rw [e1, e2, e3]) l
theorem WAt.setc {H H' : Hp} {x : WSt} {r : Rm} {k : Nat} {v : V} (y : WAt H x) (hr : r ∈ x.here) (kp : Kp [r.c] H H') (ec : H' r.c = some (.lst (r.cells.set k v))) : WAt H' (x.setc r.f r.o k v) ∧ (x.setc r.f r.o k v).foot = x.foot := by
  have eh := wset_here x r.f r.o k v
  have mc := map_set (fun z : Rm => z.c) r.f r.o k v (fun z => (setR_eq r.f r.o k v z).2.2.1) x.here
  have ef : (x.setc r.f r.o k v).foot = x.foot := by
    show (x.base ++ x.rl) ++ (x.setc r.f r.o k v).here.map (·.c) = _
    rw [eh, mc]; rfl
  have nb : ∀ a ∈ x.base, a ≠ r.c := fun a ha => y.base_c ha hr
  have kb : ∀ {b o}, H b = some o → b ≠ r.c → H' b = some o := fun e h => kp _ _ e (by simpa using h)
  have mw : ∀ g, ((x.setc r.f r.o k v).giv g).map (fun z => V.ref z.w) = (x.giv g).map fun z => V.ref z.w := fun g => by
    rw [wset_giv]; exact map_set (fun z : Rm => V.ref z.w) r.f r.o k v (fun z => by rw [(setR_eq r.f r.o k v z).2.2.2.1]) _
  have ms : ∀ g, szs ((x.setc r.f r.o k v).giv g) = szs (x.giv g) := fun g => by rw [wset_giv, szs_set]
  refine ⟨⟨kb y.d (nb _ x.m_), kb y.lh (nb _ x.a_), kb y.lt (nb _ x.b_), kb y.lr (nb _ x.r_), fun i l e => ?_, y.rn, ?_, ?_, kb y.ln (nb _ x.n_), fun q hq => ?_, fun q hq => ?_, fun w hw => ?_, ?_, ?_, y.wf, ?_, fun q hq => ?_⟩, ef⟩
  · rw [mw i]
    exact kb (y.ll i l e) (y.rl_c (List.mem_of_getElem? e) hr)
  · show H' x.g = some (.lst ((List.range x.hs.length).map fun f => nint (szs ((x.setc r.f r.o k v).giv f))))
    simp only [ms]
    exact kb y.lg (nb _ x.g_)
  · rw [eh, hdL_set]; exact kb y.lc (nb _ x.c_)
  · rw [eh] at hq
    obtain ⟨z, hz, rfl⟩ := List.mem_map.mp hq
    rw [(setR_eq r.f r.o k v z).2.2.1]
    by_cases e : z = r
    · rw [e]
      unfold setR
      rw [if_pos ⟨rfl, rfl⟩]; exact ec
    · have : ¬ (z.f = r.f ∧ z.o = r.o) := fun h => e (y.same (x.sub.subset hz) (x.sub.subset hr) h.1 h.2)
      unfold setR
      rw [if_neg this]
      exact kb (y.cl z hz) (y.c_ne hz hr e)
  · obtain ⟨z, hz, rfl⟩ := List.mem_map.mp (show q ∈ x.rs.map (setR r.f r.o k v) from hq)
    rw [(setR_eq r.f r.o k v z).1, (setR_eq r.f r.o k v z).2.1, (setR_eq r.f r.o k v z).2.2.2.1]
    exact kb (y.wl z hz) fun e => by
      have := y.cl r hr
      rw [← e, y.wl z hz] at this; cases this
  · obtain ⟨z, hz, e⟩ := y.go w hw
    exact ⟨setR r.f r.o k v z, List.mem_map.mpr ⟨z, hz, rfl⟩, by rw [(setR_eq r.f r.o k v z).2.2.2.1]; exact e⟩
  · show x.gone.length + (x.setc r.f r.o k v).here.length = (x.rs.map _).length
    rw [eh, List.length_map, List.length_map]; exact y.gc
  · rw [ef]; exact y.nd
  · show ((x.rs.map (setR r.f r.o k v)).map pk).Nodup
    rw [map_set pk r.f r.o k v (fun z => by unfold pk; rw [(setR_eq r.f r.o k v z).1, (setR_eq r.f r.o k v z).2.1])]
    exact y.kn
  · obtain ⟨z, hz, rfl⟩ := List.mem_map.mp (show q ∈ x.rs.map (setR r.f r.o k v) from hq)
    rw [(setR_eq r.f r.o k v z).1]
    exact y.fl z hz

end Lw
namespace Lw
open PySem PySem.Spec L2 FG
open PyProof.Rows hiding St
/-! ### the law's own rows: what its defs tell and do -/
def spWWorld : Sp := fun vs H Q _ => ∃ n : Nat, vs = [nint n] ∧ ∀ m a b r g c nn l H', (∀ z ∈ [m, a, b, r, g, c, nn, l], H z = none) → Kp [] H H' → WAt H' ⟨m, a, b, r, g, c, nn, [l], [none], [none], [], [], n, 0⟩ → Q (.ref m) H'
def spWStanding : Sp := fun vs H Q _ => ∃ x : WSt, vs = [.ref x.m] ∧ WAt H x ∧ ∀ l H', H l = none → Kp [] H H' → H' l = some (.lst ((stand x.ts).map nint)) → Q (.ref l) H'
def spWRow : Sp := fun vs H Q _ => ∃ (x : WSt) (n : Nat), vs = [.ref x.m, nint n] ∧ WAt H x ∧ n < x.hs.length ∧ ∀ l H', H l = none → Kp [] H H' → H' l = some (.lst ((rowW x.hs n).map nint)) → Q (.ref l) H'
def spWUsed : Sp := fun vs H Q _ => ∃ x : WSt, vs = [.ref x.m] ∧ (H x.m = some (.dK x.kv) ∧ ∃ L : List Rm, H x.c = some (.dT (hdL L)) ∧ (∀ r ∈ L, H r.c = some (.lst r.cells)) ∧ L.length ≤ 100000 ∧ ∀ H', Kp [] H H' → Q (.int (szs L : Int)) H')
def spWBegun : Sp := fun vs H Q _ => ∃ (x : WSt) (n : Nat), vs = [.ref x.m, nint n] ∧ WAt H x ∧ n < x.hs.length ∧ x.hs.length ≤ 100 ∧ ∀ l H', H l = none → Kp x.base H H' → WAt H' (x.begun n l) → (∀ a ∈ (x.begun n l).foot, a ∈ x.foot ∨ a = l) → Q (nint x.hs.length) H'
def spWGiven : Sp := fun vs H Q _ => ∃ (x : WSt) (f k : Nat), vs = [.ref x.m, nint f, nint k] ∧ WAt H x ∧ f < x.hs.length ∧ x.ts[f]? = some none ∧ k ≤ 6 ∧ x.rs.length ≤ 1000 ∧ (∀ r ∈ x.rs, ¬ (r.f = f ∧ r.o = szs (x.giv f))) ∧
  ∀ c w H', H c = none → H w = none → Kp x.foot H H' → WAt H' (x.made f k (max x.top (szs x.here + k)) c w) → (∀ a ∈ (x.made f k (max x.top (szs x.here + k)) c w).foot, a ∈ x.foot ∨ a = c) → H' w = some (.tup [.int (f : Int), .int (szs (x.giv f) : Int)]) → Q (.ref w) H'
def spWEnded : Sp := fun vs H Q _ => ∃ (x : WSt) (f : Nat), vs = [.ref x.m, nint f] ∧ WAt H x ∧ x.rs.length ≤ 1000 ∧ ∀ l H' gone, H l = none → Kp x.base H H' → WAt H' (x.ended (taken x.ts (fin x.hs x.ts f) f) gone) → H' l = some (.lst ((fin x.hs x.ts f).map nint)) → Q (.ref l) H'
def spWAll : Sp := fun vs H Q _ => ∃ x : WSt, vs = [.ref x.m] ∧ WAt H x ∧ x.rs.length ≤ 1000 ∧ ∀ l H', H l = none → Kp [] H H' → H' l = some (.lst (((stand x.ts).flatMap x.giv).map fun r => V.ref r.w)) → Q (.ref l) H'
theorem merge_nd : ∀ {kvs acc : List (L2.Key × V)}, ((acc ++ kvs).map (·.1)).Nodup → mergeK acc kvs = acc ++ kvs
  | [], acc, _ => by rw [List.append_nil]; rfl
  | p :: kvs, acc, h => by
    have h1 : p.1 ∉ acc.map (·.1) := by
      rw [List.map_append, List.map_cons] at h
      intro z
      exact (List.nodup_append.mp h).2.2 _ z _ (by simp) rfl
    have e : putK acc p.1 p.2 = acc ++ [p] := by rw [putK_new]; exact valV_no h1
    show mergeK (putK acc p.1 p.2) kvs = _
    rw [e, merge_nd (by rw [List.append_assoc]; exact h), List.append_assoc]; rfl
theorem lad_ne : ∀ {l : List (Addr × HO)} {H : Hp}, ladOk H l → ∀ {i j : Nat} {u v : Addr × HO}, i < j → l[i]? = some u → l[j]? = some v → u.1 ≠ v.1
  | [], _, _, _, _, _, _, _, e, _ => by cases e
  | x :: r, H, ⟨h, hr⟩, i, 0, u, v, hij, _, _ => absurd hij (Nat.not_lt_zero _)
  | x :: r, H, ⟨h, hr⟩, 0, j + 1, u, v, _, eu, ev => by
    injection eu with eu
    subst eu
    have h2 := lad_new (l := r) hr j ev
    intro z
    rw [← z, upd_same] at h2
    cases h2
  | x :: r, H, ⟨h, hr⟩, i + 1, j + 1, u, v, hij, eu, ev => lad_ne (l := r) hr (Nat.lt_of_succ_lt_succ hij) eu ev
theorem ixN_n {n j : Nat} (hj : j < n) : ixN n (j : Int) = some j := by
  unfold ixN
  rw [if_pos (by omega), if_pos (by omega)]
  simp
theorem sz_in {n : Nat} (h : n ≤ 100000) : n ≤ sizeLine := Nat.le_trans h (by decide)
theorem sz_lt {n : Nat} (h : n ≤ 100000) : n < sizeLine := Nat.lt_of_le_of_lt h (by decide)
theorem giv_len (x : WSt) (f : Nat) : (x.giv f).length ≤ x.rs.length := List.length_filter_le _ _
theorem sum_one (a : Rm) (l : List Rm) : ∀ ks : List Nat, (ks.map fun f => ((a :: l).filter fun r => decide (r.f = f)).length).sum = (ks.map fun f => (l.filter fun r => decide (r.f = f)).length).sum + ks.count a.f
  | [] => rfl
  | f :: ks => by
    have ih := sum_one a l ks
    rw [List.map_cons, List.sum_cons, ih, List.map_cons, List.sum_cons, List.count_cons, List.filter_cons]
    by_cases h : a.f = f
    · have h2 : (f == a.f) = true := by rw [h]; exact beq_self_eq_true f
      rw [if_pos (decide_eq_true h), h2, if_pos rfl, List.length_cons]; omega
    · have h2 : (f == a.f) = false := beq_eq_false_iff_ne.mpr fun z => h z.symm
      rw [if_neg (by simpa using h), h2, if_neg (by simp)]; omega
theorem sum_le_all (ks : List Nat) (hk : ks.Nodup) : ∀ l : List Rm, (ks.map fun f => (l.filter fun r => decide (r.f = f)).length).sum ≤ l.length
  | [] => by
    have : ∀ ks : List Nat, (ks.map fun f => (([] : List Rm).filter fun r => decide (r.f = f)).length).sum = 0 := by
      intro ks
      induction ks with
      | nil => rfl
      | cons f ks ih => rw [List.map_cons, List.sum_cons, ih]; rfl
    rw [this]; exact Nat.zero_le _
  | a :: l => by
    have ih := sum_le_all ks hk l
    have h1 := List.nodup_iff_count.mp hk a.f
    rw [sum_one, List.length_cons]; omega
theorem all_len (x : WSt) (ks : List Nat) (hk : ks.Nodup) : (ks.flatMap x.giv).length ≤ x.rs.length := by
  rw [List.length_flatMap]
  exact sum_le_all ks hk x.rs
section
variable {P : Program} {w : World} {K : PySem.W.Frag} {mg : Str → Option Value} {base : Heap}
theorem ok_wstanding (T : Tx K mg) {fd : FuncData} (F : Fun K "_law_standing" "_law_standing" s__law_standing (He.ga K "_law_standing") fd) : FnG P w K mg base 1 (He.ga K "_law_standing") fd ["_law_world_here"] spWStanding := by
  refine FnG.of F sc__law_standing (fun vs H Q E h => ?_) (fun cdv A outer s H vs Q E hr h => ?_)
  · obtain ⟨x, rfl, _⟩ := h; rfl
  · obtain ⟨x, rfl, y, q⟩ := h
    have wl := y.wf.len
    have ws := y.wf.small
    refine ⟨_, pss_one (ps_ret (pe_lc (own := [("_law_frame", 1)]) (g := gName 1) rfl sc__law_standing.nd (pi_range1 rfl T.z_range (pa_cons (pe_callB (klen K) (by rfl) T.z_len PySem.boot_len (pa_cons (pe_dget hr.hu (pv 0) (pe_str) (fun _ _ => rfl)) (pa_nil))) (pa_nil))) (blkOk_by (own := [("_law_frame", 1)]) (N := ["_law_world_here", "_law_frame"]) (sc := defScope s__law_standing) (by decide +kernel)) (fun _ _ _ _ _ => pg_name (i := 1) sc__law_standing.nd rfl (by first | exact Or.inl rfl | exact Or.inr rfl)) (fun _ _ _ _ _ => by exact pts_one (pt_cmpR op_isN (pe_ix (kixL K) (pe_dget hr.hu (pv 0) (pe_str) (fun _ _ => rfl)) (pv 1) (fun _ _ => rfl)) (pe_non) (by first | exact nomark _ | rfl))) (fun _ _ _ _ _ => by exact pv 1))), ?_⟩
    refine ⟨_, rfl, x.m, _, rfl, y.get2, x.b, _, rfl, .inl (SqL.of y.lt), _, rfl, (by rw [List.length_map]; omega), (by rw [List.length_map]; omega), fun D hD => ?_⟩
    refine lc_range (lo := 0) (n := _) (fun i H' => Kp [] H H' ∧ H' D = some (.lst ((((List.range x.ts.length).take i).filter fun j => decide (x.ts[j]? = some none)).map nint)))
      ⟨fun b o eb _ => (upd_ne (ne_of_none eb hD)).trans eb, upd_same⟩ ?_ ?_
    · rintro i H' hi ⟨kp, hD'⟩
      have hi2 : i < x.ts.length := by simpa using hi
      have y' := y.kp0 kp
      refine ⟨rfl, _, rfl, x.m, _, rfl, y'.get2, _, rfl, x.b, _, _, enc x.ts[i], rfl, rfl, SqL.of y'.lt, ?_, rfl, _, rfl, ?_⟩
      · rw [Int.zero_add]; exact get_enc (List.getElem?_eq_getElem hi2)
      · have hr2 : (List.range x.ts.length)[i]? = some i := by simp [hi2]
        rw [up_enc hi2]
        by_cases hc : x.ts[i]? = some none
        · rw [decide_eq_true hc]
          refine iteT ⟨_, rfl, _, hD', ?_, fun b o eb hb => ?_, ?_⟩
          · rw [List.length_map]
            exact small1000 (Nat.le_trans (List.length_filter_le _ _) (by simp; omega))
          · rw [upd_ne (ne_of_none eb hD)]; exact kp b o eb hb
          · rw [upd_same, sel_yes nint (fun j => decide (x.ts[j]? = some none)) hr2 (decide_eq_true hc), Int.zero_add]; rfl
        · rw [decide_eq_false hc]
          refine iteF ⟨kp, ?_⟩
          rw [hD', sel_no nint (fun j => decide (x.ts[j]? = some none)) hr2 (decide_eq_false hc)]
    · rintro H' ⟨kp, hD'⟩
      refine q D H' hD kp ?_
      rw [hD']
      unfold stand
      rw [List.take_of_length_le (by simp)]
theorem ok_wrow (T : Tx K mg) {fd : FuncData} (F : Fun K "_law_row" "_law_row" s__law_row (He.ga K "_law_row") fd) : FnG P w K mg base 1 (He.ga K "_law_row") fd ["_law_world_here", "_law_frame"] spWRow := by
  refine FnG.of F sc__law_row (fun vs H Q E h => ?_) (fun cdv A outer s H vs Q E hr h => ?_)
  · obtain ⟨x, n, rfl, _⟩ := h; rfl
  · obtain ⟨x, n, rfl, y, hn, q⟩ := h
    have wf := y.wf
    have ws := wf.small
    refine ⟨_, pss_cons (ps_set (i := 2) sc__law_row.nd rfl (by first | exact Or.inl rfl | exact Or.inr rfl) (pe_lst (pa_cons (pv 1) (pa_nil))))
      (pss_cons (ps_while (passes_of rfl) (pt_cmpR op_notN (pe_ix (kixL K) (pe_dget hr.hu (pv 0) (pe_str) (fun _ _ => rfl)) (pe_ix (kixL K) (pv 2) (pe_un un_neg (pe_int)) (fun _ _ => rfl)) (fun _ _ => rfl)) (pe_non) (by first | exact nomark _ | rfl)) (pss_one (ps_expr (kbm K PySem.F.plainAttrs_list PySem.F.slot_list_append PySem.F.type_list_append mt_append (pv 2) (pa_cons (pe_ix (kixL K) (pe_dget hr.hu (pv 0) (pe_str) (fun _ _ => rfl)) (pe_ix (kixL K) (pv 2) (pe_un un_neg (pe_int)) (fun _ _ => rfl)) (fun _ _ => rfl)) (pa_nil))))))
      (pss_one (ps_ret (krevL K (pv 2))))), ?_⟩
    refine ⟨_, rfl, (by show 1 ≤ sizeLine; decide), fun l hl => ?_⟩
    refine ⟨fun z σ H' => ∃ tail, ∃ a : Nat, σ = [some (.ref x.m), some (nint n), some (.ref l)] ∧ Kp [] H H' ∧ H' l = some (.lst (((a :: tail).reverse).map nint)) ∧ a < x.hs.length ∧ z = a ∧ rowW x.hs n = rowW x.hs a ++ tail,
      ⟨n, [], n, rfl, fun b o eb _ => (upd_ne (ne_of_none eb hl)).trans eb, upd_same, hn, rfl, by simp⟩, ?_⟩
    rintro a σ H' ⟨tail, a2, rfl, kp, hL, ha, ex, er⟩
    subst ex
    have y' := y.kp0 kp
    have hlen := row_len wf (n + 1) n (by omega) hn
    have hlt : tail.length ≤ 200 := by rw [er, List.length_append] at hlen; omega
    have elast : atI (((a :: tail).reverse).map nint) (-1) = some (nint a) := by
      rw [List.reverse_cons, List.map_append]; exact L2.atI_last _ _
    refine ⟨_, rfl, x.m, _, rfl, y'.get1, _, rfl, _, rfl, l, _, _, nint a, rfl, rfl, SqL.of hL, elast, x.a, _, _, enc x.hs[a], rfl, rfl, SqL.of y'.lh, get_enc (List.getElem?_eq_getElem ha), rfl, _, rfl, ?_⟩
    by_cases h0 : a = 0
    · subst h0
      have eh : x.hs[0] = none := by have := wf.root; rw [List.getElem?_eq_getElem wf.pos] at this; exact Option.some.inj this
      rw [eh]
      refine iteF ⟨_, rfl, l, _, rfl, SqL.of hL, fun p hp => ?_⟩
      refine q p _ (kp.free hp) (kp.new hp) ?_
      rw [upd_same, er, row_root wf, ← List.map_reverse, List.reverse_reverse]; rfl
    · obtain ⟨j, ej, hj⟩ := wf.up a (by omega) ha
      have eh : x.hs[a] = some (j : Int) := by rw [List.getElem?_eq_getElem ha] at ej; exact Option.some.inj ej
      rw [eh]
      refine iteT ⟨fun σ' H'' => ∃ m', m' < a ∧ _, fun σ' H'' z => z, ?_⟩
      refine ⟨_, rfl, .inl ⟨rfl, _, SqL.of hL⟩, _, rfl, x.m, _, rfl, y'.get1, _, rfl, _, rfl, l, _, _, nint a, rfl, rfl, SqL.of hL, elast, x.a, _, _, enc x.hs[a], rfl, rfl, SqL.of y'.lh, get_enc (List.getElem?_eq_getElem ha), l, _, _, rfl, rfl, hL, ?_, ?_⟩
      · rw [List.length_map, List.length_reverse]
        exact small1000 (by simp; omega)
      · refine ⟨j, hj, a :: tail, j, rfl, fun b o eb hb => (upd_ne (ne_of_none eb hl)).trans (kp b o eb hb), ?_, by omega, rfl, ?_⟩
        · rw [upd_same, eh, List.reverse_cons (a := j), List.map_append]; rfl
        · rw [er, row_up ej hj, List.append_assoc]; rfl
theorem ok_wused (T : Tx K mg) {fd : FuncData} (F : Fun K "_law_used" "_law_used" s__law_used (He.ga K "_law_used") fd) : FnG P w K mg base 1 (He.ga K "_law_used") fd ["_law_world_here"] spWUsed := by
  refine FnG.of F sc__law_used (fun vs H Q E h => ?_) (fun cdv A outer s H vs Q E hr h => ?_)
  · obtain ⟨x, rfl, _⟩ := h; rfl
  · obtain ⟨x, rfl, d, L, lc, cl, hl, q⟩ := h
    refine ⟨_, pss_one (ps_ret (pe_callB (ksum K) (by rfl) T.z_sum (by decide +kernel) (pa_cons (pe_lock (pe_lc (own := [("_law_cells", 1)]) (g := gName 1) (tt := tYes) rfl sc__law_used.nd (pi_valuesT (pe_dget hr.hu (pv 0) (pe_str) (fun _ _ => rfl))) (blkOk_by (own := [("_law_cells", 1)]) (N := ["_law_world_here", "_law_cells"]) (sc := defScope s__law_used) (by decide +kernel)) (fun _ _ _ _ _ => pg_name (i := 1) sc__law_used.nd rfl (by first | exact Or.inl rfl | exact Or.inr rfl)) (fun _ _ _ _ _ => by exact pts_nil) (fun _ _ _ _ _ => by exact pe_callB (klen K) (by rfl) T.z_len PySem.boot_len (pa_cons (pv 1) (pa_nil))))) (pa_nil)))), ?_⟩
    have ncm : x.m ≠ x.c := fun z => by rw [z, lc] at d; cases d
    refine ⟨x.c, _, lc, trivial, fun od => ?_⟩
    have d1 : upd H x.c (.frz od (.dT (hdL L))) x.m = some (.dK x.kv) := (upd_ne ncm).trans d
    refine ⟨_, rfl, x.m, _, rfl, dg_at d1 x.v5, x.c, od, _, rfl, upd_same, fun D hD => ?_⟩
    have hDH : H D = none := by
      by_cases c : D = x.c
      · rw [c, upd_same] at hD; cases hD
      · rw [upd_ne c] at hD; exact hD
    have nD : D ≠ x.c := fun c => by rw [c, upd_same] at hD; cases hD
    refine lc_it walk_valsT (fun i H2 => (∀ b o, H b = some o → b ≠ x.c → H2 b = some o) ∧ H2 x.c = some (.frz od (.dT (hdL L))) ∧ H2 D = some (.lst ((L.take i).map fun r => V.int (r.cells.length : Int))))
      ⟨fun b o eb hb => ?_, ?_, upd_same⟩ (fun i H2 _ p => p.2.1) ?_ ?_
    · rw [upd_ne (ne_of_none eb hDH), upd_ne hb]; exact eb
    · rw [upd_ne nD.symm, upd_same]
    · rintro i v H3 H2 hi ⟨k2, e2, eD⟩ ⟨rfl, key, hx⟩
      have hi2 : i < L.length := by simpa [hdL] using hi
      have hr2 : L[i]? = some L[i] := List.getElem?_eq_getElem hi2
      obtain rfl : v = .ref L[i].c := by
        unfold hdL at hx
        rw [List.getElem?_map, hr2] at hx
        have hx2 : (L[i].key, V.ref L[i].c) = (key, v) := Option.some.inj hx
        exact (congrArg Prod.snd hx2).symm
      have hm : L[i] ∈ L := List.getElem_mem hi2
      have ec := cl _ hm
      have nc : L[i].c ≠ x.c := ne_of ec lc (fun z => by cases z)
      refine ⟨rfl, _, rfl, _, _, rfl, .inl (SqL.of (k2 _ _ ec nc)), _, eD, ?_, fun b o eb hb => (upd_ne (ne_of_none eb hDH)).trans (k2 b o eb hb), (upd_ne nD.symm).trans e2, ?_⟩
      · rw [List.length_map, List.length_take]
        exact sz_lt (by omega)
      · rw [upd_same, List.take_succ_eq_append_getElem hi2, List.map_append]; rfl
    · rintro H2 ⟨k2, e2, eD⟩
      have hn : (hdL L).length = L.length := by simp [hdL]
      rw [hn, List.take_length] at eD
      refine ⟨e2, D, L.map fun r => (r.cells.length : Int), rfl, SqL.of ((upd_ne nD).trans (eD.trans (by rw [List.map_map]; rfl))), ?_⟩
      have es : (L.map fun r => (r.cells.length : Int)).sum = (szs L : Int) := by
        unfold szs
        generalize L = l
        induction l with
        | nil => rfl
        | cons r l ih => simp only [List.map_cons, List.sum_cons, ih]; omega
      rw [es]
      refine q _ fun b o eb _ => ?_
      by_cases c : b = x.c
      · subst c; rw [upd_same, ← lc, eb]
      · rw [upd_ne c]; exact k2 b o eb c
theorem ok_wall (T : Tx K mg) {fd : FuncData} (F : Fun K "_law_all_rooms" "_law_all_rooms" s__law_all_rooms (He.ga K "_law_all_rooms") fd) (c__law_standing : Cal P w K mg base 1 "_law_standing" spWStanding) : FnG P w K mg base 2 (He.ga K "_law_all_rooms") fd ["_law_world_here"] spWAll := by
  refine FnG.of F sc__law_all_rooms (fun vs H Q E h => ?_) (fun cdv A outer s H vs Q E hr h => ?_)
  · obtain ⟨x, rfl, _⟩ := h; rfl
  · obtain ⟨x, rfl, y, hn, q⟩ := h
    have wl := y.wf.len
    refine ⟨_, pss_cons (ps_set (i := 1) sc__law_all_rooms.nd rfl (by first | exact Or.inl rfl | exact Or.inr rfl) (pe_lst (pa_nil)))
      (pss_cons (ps_for (passes_of rfl) rfl (kiL K (gc c__law_standing (hr.mono (by decide)) takes0 (pa_cons (pv 0) (pa_nil)))) (pg_name (i := 2) sc__law_all_rooms.nd rfl (by first | exact Or.inl rfl | exact Or.inr rfl))
        (pss_one (ps_expr (kbm K PySem.F.plainAttrs_list PySem.F.slot_list_extend PySem.F.type_list_extend mt_extend (pv 1) (pa_cons (pe_ix (kixL K) (pe_dget hr.hu (pv 0) (pe_str) (fun _ _ => rfl)) (pv 2) (fun _ _ => rfl)) (pa_nil))))))
      (pss_one (ps_ret (pv 1)))), ?_⟩
    refine ⟨by decide, fun l hl => ⟨_, rfl, x, rfl, y.kp0 (Kp.refl.new hl), fun ls H1 hls k1 els => ?_⟩⟩
    have el : H1 l = some (.lst []) := k1 _ _ upd_same (by simp)
    have k01 : Kp [] H H1 := (Kp.refl.new hl).trans k1
    have nls : ls ≠ l := fun z => by rw [z, upd_same] at hls; cases hls
    refine ⟨ls, rfl, ⟨_, SqL.of els⟩, for_list (K := K) (a := ls) (xs := (stand x.ts).map nint) (fun i σ H' => ∃ v2, σ = [some (.ref x.m), some (.ref l), v2] ∧ Kp [l] H1 H' ∧ H' l = some (.lst ((((stand x.ts).take i).flatMap x.giv).map fun r => V.ref r.w))) ⟨_, rfl, Kp.refl, el⟩ (fun i σ H' _ ⟨_, _, k, _⟩ => SqL.of (k _ _ els (by simpa using nls))) ?_ ?_⟩
    · rintro i v σ H2 hx ⟨v2, rfl, k2, e2⟩
      rw [List.getElem?_map] at hx
      obtain ⟨f, hf, rfl⟩ := Option.map_eq_some_iff.mp hx
      have hup := mem_stand.mp (List.mem_of_getElem? hf)
      have hfl : f < x.hs.length := by have := (List.getElem?_eq_some_iff.mp hup).1; omega
      have k02 : Kp [] H H2 := fun b o eb _ => k2 b o (k01 b o eb (by simp)) (by simpa using ne_of_none eb hl)
      have y2 := y.kp0 k02
      have hfr : f < x.rl.length := by rw [y.rn]; exact hfl
      have ef : x.rl[f]? = some x.rl[f] := List.getElem?_eq_getElem hfr
      refine ⟨_, rfl, .inl ⟨rfl, _, SqL.of e2⟩, _, rfl, x.m, _, rfl, y2.get3, _, rfl, x.r, _, _, .ref x.rl[f], rfl, rfl, SqL.of y2.lr, atI_nat (by rw [List.getElem?_map, ef]; rfl), ?_⟩
      have el2 := y2.ll f _ ef
      have nl2 : x.rl[f] ≠ l := fun z => by have := y.ll f _ ef; rw [z, hl] at this; cases this
      refine ⟨l, _, _, _, rfl, rfl, e2, el2, ?_, ?_⟩
      · rw [List.length_map, List.length_map]
        have h1 := all_len x ((stand x.ts).take i) ((List.take_sublist _ _).nodup (stand_nd _))
        have h2 := giv_len x f
        exact sz_in (by omega)
      · refine ⟨_, rfl, fun b o eb nb => (upd_ne (by simpa using nb)).trans (k2 b o eb nb), ?_⟩
        obtain ⟨hi, e⟩ := List.getElem?_eq_some_iff.mp hf
        rw [upd_same, List.take_succ_eq_append_getElem hi, List.flatMap_append, List.map_append, e]
        simp
    · rintro σ H2 ⟨v2, rfl, k2, e2⟩
      rw [List.length_map, List.take_length] at e2
      exact ⟨_, rfl, q l H2 hl (fun b o eb _ => k2 b o (k01 b o eb (by simp)) (by simpa using ne_of_none eb hl)) e2⟩
theorem ok_wworld (T : Tx K mg) {fd : FuncData} (F : Fun K "_law_world" "_law_world" s__law_world (He.ga K "_law_world") fd) : FnG P w K mg base 1 (He.ga K "_law_world") fd ["_law_limit"] spWWorld := by
  refine FnG.of F sc__law_world (fun vs H Q E h => ?_) (fun cdv A outer s H vs Q E hr h => ?_)
  · obtain ⟨n, rfl, _⟩ := h; rfl
  · obtain ⟨n, rfl, q⟩ := h
    refine ⟨_, pss_one (ps_ret (pe_disp (pps_cons (pe_str) (pv 0) (pps_cons (pe_str) (pe_lst (pa_cons (pe_non) (pa_nil))) (pps_cons (pe_str) (pe_lst (pa_cons (pe_non) (pa_nil))) (pps_cons (pe_str) (pe_lst (pa_cons (pe_lst (pa_nil)) (pa_nil))) (pps_cons (pe_str) (pe_lst (pa_cons (pe_int) (pa_nil))) (pps_cons (pe_str) (pe_dnewT) (pps_cons (pe_str) (pe_lst (pa_nil)) (pps_cons (pe_str) (pe_int) (pps_nil))))))))) (by rfl) (by rfl) (fun z => by cases z) (by decide))), ?_⟩
    refine fun m hm => ⟨_, rfl, by decide, fun a ha => ⟨by decide, fun b hb => ⟨by decide, fun l hl => ⟨(by show 1 ≤ sizeLine; decide), fun r hr2 => ⟨by decide, fun g hg => fun c hc => ⟨by decide, fun nn hn => ?_⟩⟩⟩⟩⟩⟩
    have L : ladOk H [(m, .dK []), (a, .lst [.non]), (b, .lst [.non]), (l, .lst []), (r, .lst [.ref l]), (g, .lst [.int 0]), (c, .dT []), (nn, .lst [])] := ⟨hm, ha, hb, hl, hr2, hg, hc, hn, trivial⟩
    have e0 := lad_at L 0 rfl
    obtain ⟨HL, eHL⟩ : ∃ HL, HL = lad H [(m, .dK []), (a, .lst [.non]), (b, .lst [.non]), (l, .lst []), (r, .lst [.ref l]), (g, .lst [.int 0]), (c, .dT []), (nn, .lst [])] := ⟨_, rfl⟩
    refine ⟨e0, [(.inr "limit", nint n), (.inr "around", .ref a), (.inr "by", .ref b), (.inr "rooms", .ref r), (.inr "given", .ref g), (.inr "cells", .ref c), (.inr "gone", .ref nn), (.inr "top", .int 0)], rfl, (by show 8 ≤ 15; decide), ?_⟩
    rw [merge_nd (by show ([.inr "limit", .inr "around", .inr "by", .inr "rooms", .inr "given", .inr "cells", .inr "gone", .inr "top"] : List L2.Key).Nodup; decide +kernel)]
    have ne : ∀ (i j : Nat) {u v : Addr × HO}, i < j → [(m, HO.dK []), (a, .lst [.non]), (b, .lst [.non]), (l, .lst []), (r, .lst [.ref l]), (g, .lst [.int 0]), (c, .dT []), (nn, .lst [])][i]? = some u → [(m, HO.dK []), (a, .lst [.non]), (b, .lst [.non]), (l, .lst []), (r, .lst [.ref l]), (g, .lst [.int 0]), (c, .dT []), (nn, .lst [])][j]? = some v → u.1 ≠ v.1 := fun i j u v hij hu hv => lad_ne L hij hu hv
    have g_ : ∀ i {u : Addr × HO}, [(m, HO.dK []), (a, .lst [.non]), (b, .lst [.non]), (l, .lst []), (r, .lst [.ref l]), (g, .lst [.int 0]), (c, .dT []), (nn, .lst [])][i + 1]? = some u → upd (lad H [(m, .dK []), (a, .lst [.non]), (b, .lst [.non]), (l, .lst []), (r, .lst [.ref l]), (g, .lst [.int 0]), (c, .dT []), (nn, .lst [])]) m (.dK [(.inr "limit", nint n), (.inr "around", .ref a), (.inr "by", .ref b), (.inr "rooms", .ref r), (.inr "given", .ref g), (.inr "cells", .ref c), (.inr "gone", .ref nn), (.inr "top", .int 0)]) u.1 = some u.2 := fun i u hu =>
      (upd_ne (ne 0 (i + 1) (by omega) rfl hu).symm).trans (lad_at L (i + 1) hu)
    refine q m a b r g c nn l _ ?_ ?_ ⟨upd_same, g_ 0 rfl, g_ 1 rfl, g_ 3 rfl, ?_, rfl, ?_, g_ 5 rfl, g_ 6 rfl, (fun r hr => by cases hr), (fun r hr => by cases hr), (fun w hw => by cases hw), rfl, ?_, wf0, List.nodup_nil, (fun r hr => by cases hr)⟩
    · intro z hz
      simp only [List.mem_cons, List.not_mem_nil, or_false] at hz
      rcases hz with rfl | rfl | rfl | rfl | rfl | rfl | rfl | rfl
      · exact hm
      · exact lad_new L 1 rfl
      · exact lad_new L 2 rfl
      · exact lad_new L 4 rfl
      · exact lad_new L 5 rfl
      · exact lad_new L 6 rfl
      · exact lad_new L 7 rfl
      · exact lad_new L 3 rfl
    · intro d o ed _
      exact (upd_ne (ne_of_none ed hm)).trans (lad_old L ed)
    · intro f l' e
      have e' : [l][f]? = some l' := e
      cases f with
      | zero =>
        injection e' with e'
        subst e'
        exact g_ 2 rfl
      | succ f => cases e'
    · exact g_ 4 rfl
    · show [m, a, b, r, g, c, nn, l].Nodup
      simp only [List.nodup_cons, List.mem_cons, List.not_mem_nil, or_false, not_or, not_false_eq_true, List.nodup_nil, and_true]
      exact ⟨⟨ne 0 1 (by decide) rfl rfl, ne 0 2 (by decide) rfl rfl, ne 0 4 (by decide) rfl rfl, ne 0 5 (by decide) rfl rfl, ne 0 6 (by decide) rfl rfl, ne 0 7 (by decide) rfl rfl, ne 0 3 (by decide) rfl rfl⟩,
        ⟨ne 1 2 (by decide) rfl rfl, ne 1 4 (by decide) rfl rfl, ne 1 5 (by decide) rfl rfl, ne 1 6 (by decide) rfl rfl, ne 1 7 (by decide) rfl rfl, ne 1 3 (by decide) rfl rfl⟩,
        ⟨ne 2 4 (by decide) rfl rfl, ne 2 5 (by decide) rfl rfl, ne 2 6 (by decide) rfl rfl, ne 2 7 (by decide) rfl rfl, ne 2 3 (by decide) rfl rfl⟩,
        ⟨ne 4 5 (by decide) rfl rfl, ne 4 6 (by decide) rfl rfl, ne 4 7 (by decide) rfl rfl, (ne 3 4 (by decide) rfl rfl).symm⟩,
        ⟨ne 5 6 (by decide) rfl rfl, ne 5 7 (by decide) rfl rfl, (ne 3 5 (by decide) rfl rfl).symm⟩,
        ⟨ne 6 7 (by decide) rfl rfl, (ne 3 6 (by decide) rfl rfl).symm⟩, (ne 3 7 (by decide) rfl rfl).symm⟩
theorem ok_wbegun (T : Tx K mg) {fd : FuncData} (F : Fun K "_law_begun" "_law_begun" s__law_begun (He.ga K "_law_begun") fd) : FnG P w K mg base 1 (He.ga K "_law_begun") fd ["_law_world_here", "_law_frame"] spWBegun := by
  refine FnG.of F sc__law_begun (fun vs H Q E h => ?_) (fun cdv A outer s H vs Q E hr h => ?_)
  · obtain ⟨x, n, rfl, _⟩ := h; rfl
  · obtain ⟨x, n, rfl, y, hn, h100, q⟩ := h
    have wl := y.wf.len
    have hs1 : x.hs.length < 1000 := by omega
    have rn := y.rn
    have bn := y.bnd
    simp only [WSt.base, List.nodup_cons, List.mem_cons, List.not_mem_nil, or_false, not_or] at bn
    obtain ⟨⟨m1, m2, m3, m4, m5, m6⟩, ⟨a1, a2, a3, a4, a5⟩, ⟨b1, b2, b3, b4⟩, ⟨r1, r2, r3⟩, ⟨g1, g2⟩, c1, _⟩ := bn
    refine ⟨_, pss_cons (ps_expr (kbm K PySem.F.plainAttrs_list PySem.F.slot_list_append PySem.F.type_list_append mt_append (pe_dget hr.hu (pv 0) (pe_str) (fun _ _ => rfl)) (pa_cons (pv 1) (pa_nil))))
      (pss_cons (ps_expr (kbm K PySem.F.plainAttrs_list PySem.F.slot_list_append PySem.F.type_list_append mt_append (pe_dget hr.hu (pv 0) (pe_str) (fun _ _ => rfl)) (pa_cons (pe_non) (pa_nil))))
      (pss_cons (ps_expr (kbm K PySem.F.plainAttrs_list PySem.F.slot_list_append PySem.F.type_list_append mt_append (pe_dget hr.hu (pv 0) (pe_str) (fun _ _ => rfl)) (pa_cons (pe_lst (pa_nil)) (pa_nil))))
      (pss_cons (ps_expr (kbm K PySem.F.plainAttrs_list PySem.F.slot_list_append PySem.F.type_list_append mt_append (pe_dget hr.hu (pv 0) (pe_str) (fun _ _ => rfl)) (pa_cons (pe_int) (pa_nil))))
      (pss_one (ps_ret (pe_op op_sub (pe_callB (klen K) (by rfl) T.z_len PySem.boot_len (pa_cons (pe_dget hr.hu (pv 0) (pe_str) (fun _ _ => rfl)) (pa_nil))) (pe_int))))))), ?_⟩
    obtain ⟨H1, eH1⟩ : ∃ H1, H1 = upd H x.a (.lst (x.hs.map enc ++ [nint n])) := ⟨_, rfl⟩
    have u1 : ∀ {b o}, H b = some o → b ≠ x.a → H1 b = some o := fun e n => by rw [eH1, upd_ne n]; exact e
    have w1 : H1 x.a = some (.lst (x.hs.map enc ++ [nint n])) := by rw [eH1, upd_same]
    refine ⟨_, rfl, x.m, _, rfl, y.get1, .inl ⟨rfl, _, SqL.of y.lh⟩, _, rfl, x.a, _, _, rfl, rfl, y.lh, sz_lt (by rw [List.length_map]; omega), ?_⟩
    rw [← eH1]
    obtain ⟨H2, eH2⟩ : ∃ H2, H2 = upd H1 x.b (.lst (x.ts.map enc ++ [.non])) := ⟨_, rfl⟩
    have u2 : ∀ {b o}, H1 b = some o → b ≠ x.b → H2 b = some o := fun e n => by rw [eH2, upd_ne n]; exact e
    have w2 : H2 x.b = some (.lst (x.ts.map enc ++ [.non])) := by rw [eH2, upd_same]
    refine ⟨_, rfl, x.m, _, rfl, dg_at (u1 y.d m1) x.v2, .inl ⟨rfl, _, SqL.of (u1 y.lt (Ne.symm a1))⟩, x.b, _, _, rfl, rfl, u1 y.lt (Ne.symm a1), sz_lt (by rw [List.length_map]; omega), ?_⟩
    rw [← eH2]
    have dm2 := u2 (u1 y.d m1) m2
    have r2' := u2 (u1 y.lr (Ne.symm a2)) (Ne.symm b1)
    refine ⟨_, rfl, x.m, _, rfl, dg_at dm2 x.v3, .inl ⟨rfl, _, SqL.of r2'⟩, by decide, fun l hl => ?_⟩
    obtain ⟨H3, eH3⟩ : ∃ H3, H3 = upd H2 l (.lst []) := ⟨_, rfl⟩
    have u3 : ∀ {b o}, H2 b = some o → H3 b = some o := fun e => by rw [eH3, upd_ne (ne_of_none e hl)]; exact e
    have w3 : H3 l = some (.lst []) := by rw [eH3, upd_same]
    obtain ⟨H4, eH4⟩ : ∃ H4, H4 = upd H3 x.r (.lst (x.rl.map V.ref ++ [.ref l])) := ⟨_, rfl⟩
    have u4 : ∀ {b o}, H3 b = some o → b ≠ x.r → H4 b = some o := fun e n => by rw [eH4, upd_ne n]; exact e
    have w4 : H4 x.r = some (.lst (x.rl.map V.ref ++ [.ref l])) := by rw [eH4, upd_same]
    rw [← eH3]
    refine ⟨x.r, _, _, rfl, rfl, u3 r2', sz_lt (by rw [List.length_map]; omega), ?_⟩
    rw [← eH4]
    have dm4 := u4 (u3 dm2) m3
    have g4 := u4 (u3 (u2 (u1 y.lg (Ne.symm a3)) (Ne.symm b2))) (Ne.symm r1)
    obtain ⟨H5, eH5⟩ : ∃ H5, H5 = upd H4 x.g (.lst (((List.range x.hs.length).map fun f => nint (szs (x.giv f))) ++ [.int 0])) := ⟨_, rfl⟩
    have u5 : ∀ {b o}, H4 b = some o → b ≠ x.g → H5 b = some o := fun e n => by rw [eH5, upd_ne n]; exact e
    have w5 : H5 x.g = some (.lst (((List.range x.hs.length).map fun f => nint (szs (x.giv f))) ++ [.int 0])) := by rw [eH5, upd_same]
    refine ⟨_, rfl, x.m, _, rfl, dg_at dm4 x.v4, .inl ⟨rfl, _, SqL.of g4⟩, x.g, _, _, rfl, rfl, g4, sz_lt (by rw [List.length_map, List.length_range]; omega), ?_⟩
    rw [← eH5]
    have fl : H l = none := by
      have e2 : l ≠ x.b := fun z => by rw [z, w2] at hl; cases hl
      rw [eH2, upd_ne e2] at hl
      have e1 : l ≠ x.a := fun z => by rw [z, w1] at hl; cases hl
      rw [eH1, upd_ne e1] at hl
      exact hl
    have lr : l ≠ x.r := fun z => by rw [z, y.lr] at fl; cases fl
    have lg : l ≠ x.g := fun z => by rw [z, y.lg] at fl; cases fl
    have KP : Kp [x.a, x.b, x.r, x.g] H H5 := fun b o e nb => by
      simp only [List.mem_cons, List.not_mem_nil, or_false, not_or] at nb
      exact u5 (u4 (u3 (u2 (u1 e nb.1) nb.2.1)) nb.2.2.1) nb.2.2.2
    have b5 := u5 (u4 (u3 w2) b1) b2
    obtain ⟨yb, fo⟩ := y.begun (f := n) (l := l) KP (by rw [List.map_append]; exact u5 (u4 (u3 (u2 w1 a1)) a2) a3) (by rw [List.map_append]; exact b5) (by rw [List.map_append]; exact u5 w4 r1) w5 (u5 (u4 w3 lr) lg) fl hn h100
    refine ⟨_, rfl, x.m, _, rfl, yb.get2, x.b, _, rfl, .inl (SqL.of b5), _, _, rfl, rfl, ?_⟩
    have ez : (((x.ts.map enc ++ [V.non]).length : Nat) : Int) - 1 = (x.hs.length : Int) := by
      rw [List.length_append, List.length_map, List.length_singleton]; omega
    show Q (.int ((((x.ts.map enc ++ [V.non]).length : Nat) : Int) - 1)) H5
    rw [ez]
    refine q l H5 fl (KP.mono fun a ha => ?_) yb fo
    simp only [List.mem_cons, List.not_mem_nil, or_false] at ha
    rcases ha with rfl | rfl | rfl | rfl <;> simp [WSt.base]
theorem ok_wgiven (T : Tx K mg) {fd : FuncData} (F : Fun K "_law_given" "_law_given" s__law_given (He.ga K "_law_given") fd) (c__law_used : Cal P w K mg base 1 "_law_used" spWUsed) : FnG P w K mg base 2 (He.ga K "_law_given") fd ["_law_world_here", "_law_frame", "_law_size"] spWGiven := by
  refine FnG.of F sc__law_given (fun vs H Q E h => ?_) (fun cdv A outer s H vs Q E hr h => ?_)
  · obtain ⟨x, f, k, rfl, _⟩ := h; rfl
  · obtain ⟨x, f, k, rfl, y, hf, hup, hk, hrs, fr, q⟩ := h
    have bn := y.bnd
    simp only [WSt.base, List.nodup_cons, List.mem_cons, List.not_mem_nil, or_false, not_or] at bn
    obtain ⟨⟨m1, m2, m3, m4, m5, m6⟩, ⟨a1, a2, a3, a4, a5⟩, ⟨b1, b2, b3, b4⟩, ⟨r1, r2, r3⟩, ⟨g1, g2⟩, c1, _⟩ := bn
    have hfr : f < x.rl.length := by rw [y.rn]; exact hf
    have ef : x.rl[f]? = some x.rl[f] := List.getElem?_eq_getElem hfr
    have hlm := List.mem_of_getElem? ef
    generalize x.rl[f] = l at *
    have bl : ∀ a ∈ x.base, a ≠ l := fun a ha => y.base_rl ha hlm
    have egv : ((List.range x.hs.length).map fun f => nint (szs (x.giv f)))[f]? = some (nint (szs (x.giv f))) := by rw [List.getElem?_map, List.getElem?_range hf]; rfl
    have hh : x.here.length ≤ x.rs.length := x.sub.length_le
    refine ⟨_, pss_cons (ps_set (i := 3) sc__law_given.nd rfl (by first | exact Or.inl rfl | exact Or.inr rfl) (pe_tup (pa_cons (pv 1) (pa_cons (pe_ix (kixL K) (pe_dget hr.hu (pv 0) (pe_str) (fun _ _ => rfl)) (pv 1) (fun _ _ => rfl)) (pa_nil)))))
      (pss_cons (ps_asg (pe_op op_add (pe_ix (kixL K) (pe_dget hr.hu (pv 0) (pe_str) (fun _ _ => rfl)) (pv 1) (fun _ _ => rfl)) (pv 2)) (pg_sub (pe_dget hr.hu (pv 0) (pe_str) (fun _ _ => rfl)) (pv 1) set_list))
      (pss_cons (ps_expr (kbm K PySem.F.plainAttrs_list PySem.F.slot_list_append PySem.F.type_list_append mt_append (pe_ix (kixL K) (pe_dget hr.hu (pv 0) (pe_str) (fun _ _ => rfl)) (pv 1) (fun _ _ => rfl)) (pa_cons (pv 3) (pa_nil))))
      (pss_cons (ps_dput hr.hu (pe_dget hr.hu (pv 0) (pe_str) (fun _ _ => rfl)) (pv 3) (pe_op op_rep (pe_lst (pa_cons (pe_non) (pa_nil))) (pv 2)) rfl)
      (pss_cons (ps_dput hr.hu (pv 0) (pe_str) (pe_callB (call_max2 rfl) (by rfl) T.z_max (by decide +kernel) (pa_cons (pe_dget hr.hu (pv 0) (pe_str) (fun _ _ => rfl)) (pa_cons (gc c__law_used (hr.mono (by decide)) takes0 (pa_cons (pv 0) (pa_nil))) (pa_nil)))) rfl)
      (pss_one (ps_ret (pv 3))))))), ?_⟩
    refine ⟨_, rfl, _, rfl, x.m, _, rfl, y.get4, _, rfl, x.g, _, _, _, rfl, rfl, SqL.of y.lg, atI_nat egv, (by show 2 ≤ sizeLine; decide), fun w hw => ?_⟩
    obtain ⟨H1, eH1⟩ : ∃ H1, H1 = upd H w (.tup [nint f, nint (szs (x.giv f))]) := ⟨_, rfl⟩
    have u1 : ∀ {b o}, H b = some o → H1 b = some o := fun e => by rw [eH1, upd_ne (ne_of_none e hw)]; exact e
    have w1 : H1 w = some (.tup [nint f, nint (szs (x.giv f))]) := by rw [eH1, upd_same]
    have y1 : WAt H1 x := y.kp0 fun b o e _ => u1 e
    rw [← eH1]
    refine ⟨_, rfl, x.m, _, rfl, y1.get4, _, rfl, x.g, _, _, _, rfl, rfl, SqL.of y1.lg, atI_nat egv, _, rfl, _, _, rfl, rfl, _, rfl, x.m, _, rfl, y1.get4, _, rfl, x.g, _, _, f, rfl, rfl, y1.lg, ?_, ?_⟩
    · rw [List.length_map, List.length_range]; exact ixN_n hf
    obtain ⟨H2, eH2⟩ : ∃ H2, H2 = upd H1 x.g (.lst (((List.range x.hs.length).map fun f => nint (szs (x.giv f))).set f (nint (szs (x.giv f) + k)))) := ⟨_, rfl⟩
    have u2 : ∀ {b o}, H1 b = some o → b ≠ x.g → H2 b = some o := fun e n => by rw [eH2, upd_ne n]; exact e
    have w2 : H2 x.g = some (.lst (((List.range x.hs.length).map fun f => nint (szs (x.giv f))).set f (nint (szs (x.giv f) + k)))) := by rw [eH2, upd_same]
    have ev : V.int ((szs (x.giv f) : Int) + k) = nint (szs (x.giv f) + k) := by unfold nint; congr 1
    walk_at "nx"
    rw [ev, ← eH2]
    have ll2 := u2 (y1.ll f l ef) (Ne.symm (bl _ x.g_))
    refine ⟨_, rfl, x.m, _, rfl, dg_at (u2 y1.d m4) x.v3, _, rfl, x.r, _, _, .ref l, rfl, rfl, SqL.of (u2 y1.lr r1), atI_nat (by rw [List.getElem?_map, ef]; rfl), .inl ⟨rfl, _, SqL.of ll2⟩, _, rfl, l, _, _, rfl, rfl, ll2, sz_lt (by rw [List.length_map]; have := giv_len x f; omega), ?_⟩
    obtain ⟨H3, eH3⟩ : ∃ H3, H3 = upd H2 l (.lst (((x.giv f).map fun r => V.ref r.w) ++ [.ref w])) := ⟨_, rfl⟩
    have u3 : ∀ {b o}, H2 b = some o → b ≠ l → H3 b = some o := fun e n => by rw [eH3, upd_ne n]; exact e
    have w3 : H3 l = some (.lst (((x.giv f).map fun r => V.ref r.w) ++ [.ref w])) := by rw [eH3, upd_same]
    rw [← eH3]
    refine ⟨(by show 1 ≤ sizeLine; decide), fun l2 hl2 => ⟨_, rfl, l2, (k : Int), [.non], rfl, rfl, upd_same, by omega, by omega, (by rw [Int.toNat_natCast]; exact Nat.le_trans (by show 1 * k ≤ 6; omega) (by decide : 6 ≤ sizeLine)), fun c hc => ?_⟩⟩
    rw [Int.toNat_natCast, rep_flat]
    obtain ⟨H4, eH4⟩ : ∃ H4, H4 = upd (upd H3 l2 (.lst [.non])) c (.lst (List.replicate k .non)) := ⟨_, rfl⟩
    have k4 : Kp [] H3 H4 := by rw [eH4]; exact ((Kp.refl (S := []) (H := H3)).new hl2).new hc
    have w4 : H4 c = some (.lst (List.replicate k .non)) := by rw [eH4, upd_same]
    have c3 : H3 c = none := ((Kp.refl (S := []) (H := H3)).new (o := .lst [.non]) hl2).free hc
    rw [← eH4]
    have u4 : ∀ {b o}, H3 b = some o → H4 b = some o := fun e => k4 _ _ e (by simp)
    have wg : w ≠ x.g := fun z => by rw [z, y.lg] at hw; cases hw
    have wll : w ≠ l := fun z => by rw [z, y.ll f l ef] at hw; cases hw
    have wx : w ≠ x.c := fun z => by rw [z, y.lc] at hw; cases hw
    have wm : w ≠ x.m := fun z => by rw [z, y.d] at hw; cases hw
    have ew4 := u4 (u3 (u2 w1 wg) wll)
    have dm4 := u4 (u3 (u2 y1.d m4) (bl _ x.m_))
    have lc4 := u4 (u3 (u2 y1.lc (Ne.symm g1)) (bl _ x.c_))
    refine ⟨_, rfl, x.m, _, rfl, dg_at dm4 x.v5, _, rfl, x.c, _, rfl, DPut.t (k := [.inl (f : Int), .inl (szs (x.giv f) : Int)]) lc4 ew4 (by unfold hdL; rw [List.length_map]; exact sz_lt (by omega)), ?_⟩
    rw [hd_put (c := c) (w := w) (k := k) fun r hr => fr r (x.sub.subset hr)]
    obtain ⟨H5, eH5⟩ : ∃ H5, H5 = upd H4 x.c (.dT (hdL (x.here ++ [⟨f, szs (x.giv f), List.replicate k .non, c, w⟩]))) := ⟨_, rfl⟩
    have u5 : ∀ {b o}, H4 b = some o → b ≠ x.c → H5 b = some o := fun e n => by rw [eH5, upd_ne n]; exact e
    have w5 : H5 x.c = some (.dT (hdL (x.here ++ [⟨f, szs (x.giv f), List.replicate k .non, c, w⟩]))) := by rw [eH5, upd_same]
    rw [← eH5]
    have dm5 := u5 dm4 m5
    have fc : H c = none := by
      have e3 : c ≠ l := fun z => by rw [z, w3] at c3; cases c3
      rw [eH3, upd_ne e3] at c3
      have e2 : c ≠ x.g := fun z => by rw [z, w2] at c3; cases c3
      rw [eH2, upd_ne e2] at c3
      have e1 : c ≠ w := fun z => by rw [z, w1] at c3; cases c3
      rw [eH1, upd_ne e1] at c3
      exact c3
    have cxc : c ≠ x.c := fun z => by rw [z, y.lc] at fc; cases fc
    have cxm : c ≠ x.m := fun z => by rw [z, y.d] at fc; cases fc
    have cl5 : ∀ r ∈ x.here ++ [(⟨f, szs (x.giv f), List.replicate k .non, c, w⟩ : Rm)], H5 r.c = some (.lst r.cells) := fun r hr => by
      rcases List.mem_append.mp hr with z | z
      · exact u5 (u4 (u3 (u2 (y1.cl r z) (Ne.symm (y.base_c x.g_ z))) (Ne.symm (y.rl_c hlm z)))) (Ne.symm (y.base_c x.c_ z))
      · rw [List.mem_singleton] at z; subst z; exact u5 w4 cxc
    refine ⟨_, rfl, x.m, _, rfl, dg_at dm5 x.v7, _, rfl, x, rfl, dm5, _, w5, cl5, (by rw [List.length_append, List.length_singleton]; omega), fun H6 k6 => ⟨_, _, rfl, ?_⟩⟩
    have u6 : ∀ {b o}, H5 b = some o → H6 b = some o := fun e => k6 _ _ e (by simp)
    obtain ⟨v, ev2, et⟩ : ∃ v : V, v = .int (if ((szs (x.here ++ [(⟨f, szs (x.giv f), List.replicate k .non, c, w⟩ : Rm)]) : Nat) : Int) > ((x.top : Nat) : Int) then ((szs (x.here ++ [(⟨f, szs (x.giv f), List.replicate k .non, c, w⟩ : Rm)]) : Nat) : Int) else ((x.top : Nat) : Int)) ∧ v = nint (max x.top (szs x.here + k)) := by
      refine ⟨_, rfl, ?_⟩
      rw [szs_snoc]
      have e9 : (List.replicate k V.non).length = k := List.length_replicate
      unfold nint
      congr 1
      split <;> rename_i h <;> rw [e9] at * <;> omega
    rw [← ev2]
    have dm6 := u6 dm5
    refine ⟨_, rfl, x.m, _, rfl, DPut.k (k := Sum.inr ("top" : Str)) dm6 (by show 8 < sizeLine; decide), ?_⟩
    have u7 : ∀ {b o}, H6 b = some o → b ≠ x.m → upd H6 x.m (.dK (putK x.kv (Sum.inr "top") v)) b = some o := fun e n => by rw [upd_ne n]; exact e
    obtain ⟨H7, eH7⟩ : ∃ H7, H7 = upd H6 x.m (.dK (putK x.kv (Sum.inr "top") v)) := ⟨_, rfl⟩
    rw [← eH7] at u7 ⊢
    have w7 : H7 x.m = some (.dK ({ x with top := max x.top (szs x.here + k) } : WSt).kv) := by rw [eH7, upd_same, et, x.putTop]
    have KP : Kp [x.m, l, x.g, x.c] H H7 := fun b o e nb => by
      simp only [List.mem_cons, List.not_mem_nil, or_false, not_or] at nb
      exact u7 (u6 (u5 (u4 (u3 (u2 (u1 e) nb.2.2.1) nb.2.1)) nb.2.2.2)) nb.1
    obtain ⟨ym, fo⟩ := y.made (f := f) (k := k) (t := max x.top (szs x.here + k)) (c := c) (w := w) (l := l) ef KP fc hup w7 (u7 (u6 (u5 (u4 w3) (Ne.symm (bl _ x.c_)))) (Ne.symm (bl _ x.m_)))
      (u7 (u6 (u5 (u4 (u3 w2 (bl _ x.g_))) g1)) (Ne.symm m4)) (u7 (u6 w5) (Ne.symm m5)) (u7 (u6 (u5 w4 cxc)) cxm) (u7 (u6 (u5 ew4 wx)) wm) fr
    refine ⟨_, rfl, q c w H7 fc hw (KP.mono fun a ha => ?_) ym fo (u7 (u6 (u5 ew4 wx)) wm)⟩
    simp only [List.mem_cons, List.not_mem_nil, or_false] at ha
    rcases ha with rfl | rfl | rfl | rfl
    · exact x.fb _ x.m_
    · exact x.fl _ hlm
    · exact x.fb _ x.g_
    · exact x.fb _ x.c_
end

end Lw
namespace Lw
open PySem PySem.Spec L2 FG
open PyProof.Rows hiding St
theorem mem_wgiv {x : WSt} {r : Rm} {f : Nat} : r ∈ x.giv f ↔ r ∈ x.rs ∧ r.f = f := by
  unfold WSt.giv
  rw [List.mem_filter, decide_eq_true_eq]
theorem filt_split {α : Type} (p : α → Bool) : ∀ l : List α, l.length = (l.filter p).length + (l.filter fun x => !p x).length
  | [] => rfl
  | a :: l => by
    have := filt_split p l
    cases h : p a with
    | true => simp [h]; omega
    | false => simp [h]; omega
theorem hd_in {l : List Rm} (h : (l.map Rm.key).Nodup) {r : Rm} (hr : r ∈ l) : valV (hdL l) r.key = some (.ref r.c) :=
  val_nodup (by rw [hdL_keys]; exact h) (r.key, .ref r.c) (List.mem_map.mpr ⟨r, hr, rfl⟩)
section
variable {P : Program} {w : World} {K : PySem.W.Frag} {mg : Str → Option Value} {base : Heap}
theorem ok_wended (T : Tx K mg) {fd : FuncData} (F : Fun K "_law_ended" "_law_ended" s__law_ended (He.ga K "_law_ended") fd) (c__law_standing : Cal P w K mg base 1 "_law_standing" spWStanding) (c__law_row : Cal P w K mg base 1 "_law_row" spWRow) : FnG P w K mg base 2 (He.ga K "_law_ended") fd ["_law_world_here", "_law_frame"] spWEnded := by
  refine FnG.of F sc__law_ended (fun vs H Q E h => ?_) (fun cdv A outer s H vs Q E hr h => ?_)
  · obtain ⟨x, n, rfl, _⟩ := h; rfl
  · obtain ⟨x, n, rfl, y, hrs, q⟩ := h
    have wf := y.wf
    have wl := wf.len
    have ws := wf.small
    have bn := y.bnd
    simp only [WSt.base, List.nodup_cons, List.mem_cons, List.not_mem_nil, or_false, not_or] at bn
    obtain ⟨⟨m1, m2, m3, m4, m5, m6⟩, ⟨a1, a2, a3, a4, a5⟩, ⟨b1, b2, b3, b4⟩, ⟨r1, r2, r3⟩, ⟨g1, g2⟩, c1, _⟩ := bn
    refine ⟨_, pss_cons (ps_set (i := 2) sc__law_ended.nd rfl (by first | exact Or.inl rfl | exact Or.inr rfl) (krevL K (pe_lc (own := [("_law_one", 3)]) (g := gName 3) rfl sc__law_ended.nd (kiL K (gc c__law_standing (hr.mono (by decide)) takes0 (pa_cons (pv 0) (pa_nil)))) (blkOk_by (own := [("_law_one", 3)]) (N := ["_law_world_here", "_law_frame", "_law_found", "_law_one", "_law_way"]) (sc := defScope s__law_ended) (by decide +kernel)) (fun _ _ _ _ _ => pg_name (i := 3) sc__law_ended.nd rfl (by first | exact Or.inl rfl | exact Or.inr rfl)) (fun _ _ _ _ _ => by exact pts_one (pt_cmpR (kin K) (pv 1) (gc c__law_row (hr.mono (by decide)) takes0 (pa_cons (pv 0) (pa_cons (pv 3) (pa_nil)))) (by first | exact nomark _ | rfl))) (fun _ _ _ _ _ => by exact pv 3))))
      (pss_cons (ps_for (passes_of rfl) rfl (kiL K (pv 2)) (pg_name (i := 3) sc__law_ended.nd rfl (by first | exact Or.inl rfl | exact Or.inr rfl))
        (pss_cons (ps_asg (pv 1) (pg_sub (pe_dget hr.hu (pv 0) (pe_str) (fun _ _ => rfl)) (pv 3) set_list))
      (pss_one (ps_for (passes_of rfl) rfl (kiL K (pe_ix (kixL K) (pe_dget hr.hu (pv 0) (pe_str) (fun _ _ => rfl)) (pv 3) (fun _ _ => rfl))) (pg_name (i := 4) sc__law_ended.nd rfl (by first | exact Or.inl rfl | exact Or.inr rfl))
        (pss_cons (ps_expr (kbm K PySem.F.plainAttrs_dict PySem.F.slot_dict_pop PySem.F.type_dict_pop (mt_popT1 hr.hu) (pe_dget hr.hu (pv 0) (pe_str) (fun _ _ => rfl)) (pa_cons (pv 4) (pa_nil))))
      (pss_one (ps_expr (kbm K PySem.F.plainAttrs_list PySem.F.slot_list_append PySem.F.type_list_append mt_append (pe_dget hr.hu (pv 0) (pe_str) (fun _ _ => rfl)) (pa_cons (pv 4) (pa_nil))))))))))
      (pss_one (ps_ret (pv 2)))), ?_⟩
    refine ⟨_, rfl, x, rfl, y, fun ls H1 hls k1 els => ⟨ls, rfl, ⟨_, SqL.of els⟩, fun D hD => ?_⟩⟩
    have neD : ∀ b o, H1 b = some o → b ≠ D := fun b o eb => ne_of_none eb hD
    refine lc_list (K := K) (a := ls) (xs := (stand x.ts).map nint) (fun i H3 => Kp [] H1 H3 ∧ H3 D = some (.lst ((((stand x.ts).take i).filter fun k => decide (n ∈ rowW x.hs k)).map nint)))
      ⟨fun b o eb _ => (upd_ne (neD b o eb)).trans eb, upd_same⟩ (fun i H3 _ ⟨k3, _⟩ => SqL.of (k3 _ _ els (by simp))) ?_ ?_
    · rintro i v H3 hx ⟨k3, eD⟩
      rw [List.getElem?_map] at hx
      obtain ⟨k, hk, rfl⟩ := Option.map_eq_some_iff.mp hx
      have hkt : x.ts[k]? = some none := mem_stand.mp (List.mem_of_getElem? hk)
      have hkl : k < x.hs.length := by have := (List.getElem?_eq_some_iff.mp hkt).1; omega
      have sl := stand_len x.ts
      have hi9 := (List.getElem?_eq_some_iff.mp hk).1
      refine ⟨rfl, _, rfl, _, rfl, _, rfl, x, k, rfl, y.kp0 (k1.trans k3), hkl, fun l4 H4 hl4 k4 eL4 => ?_⟩
      refine ⟨l4, _, rfl, .inl (SqL.of eL4), rfl, flat_nint _, _, rfl, ?_⟩
      have eD4 := k4 _ _ eD (by simp)
      show if inV (.int (n : Int)) ((rowW x.hs k).map nint) = true then _ else _
      rw [inV_nint]
      by_cases hc : n ∈ rowW x.hs k
      · rw [decide_eq_true hc]
        refine iteT ⟨_, rfl, _, eD4, ?_, fun b o eb hb => ?_, ?_⟩
        · rw [List.length_map]
          exact small1000 (Nat.le_trans (List.length_filter_le _ _) (Nat.le_trans (List.length_take_le _ _) (by omega)))
        · rw [upd_ne (neD b o eb)]; exact (k3.trans k4) b o eb hb
        · rw [upd_same, sel_yes nint (fun k => decide (n ∈ rowW x.hs k)) hk (decide_eq_true hc)]
      · rw [decide_eq_false hc]
        refine iteF ⟨k3.trans k4, ?_⟩
        rw [eD4, sel_no nint (fun k => decide (n ∈ rowW x.hs k)) hk (decide_eq_false hc)]
    rintro H3 ⟨k3, eD⟩
    rw [List.length_map, List.take_length] at eD
    refine ⟨D, _, rfl, SqL.of eD, fun p hp => ?_⟩
    have ep : upd H3 p (.lst ((((stand x.ts).filter fun k => decide (n ∈ rowW x.hs k)).map nint).reverse)) p = some (.lst ((fin x.hs x.ts n).map nint)) := by
      rw [upd_same, ← List.map_reverse, ← List.filter_reverse]; rfl
    have k4 := (Kp.refl (S := []) (H := H3)).new (o := .lst ((((stand x.ts).filter fun k => decide (n ∈ rowW x.hs k)).map nint).reverse)) hp
    generalize upd H3 p (.lst ((((stand x.ts).filter fun k => decide (n ∈ rowW x.hs k)).map nint).reverse)) = H4 at *
    have kH : Kp [] H H4 := (k1.trans k3).trans k4
    have hpH : H p = none := (k1.trans k3).free hp
    have pnb : ∀ a ∈ x.base, p ≠ a := fun a ha z => by
      obtain ⟨o, e, _⟩ := y.std a (x.fb a ha)
      rw [← z, hpH] at e; cases e
    have pS : p ∉ [x.b, x.c, x.n] := by simp [pnb _ x.b_, pnb _ x.c_, pnb _ x.n_]
    have Sb : ∀ a ∈ [x.b, x.c, x.n], a ∈ x.base := fun a ha => by
      simp only [List.mem_cons, List.not_mem_nil, or_false] at ha
      rcases ha with rfl | rfl | rfl <;> simp [WSt.base]
    have oS : ∀ {b o}, H b = some o → b ∉ [x.b, x.c, x.n] → ∀ H5, Kp [x.b, x.c, x.n] H H5 → H5 b = some o := fun e n H5 k => k _ _ e n
    have wS : ∀ r ∈ x.rs, r.w ∉ [x.b, x.c, x.n] := fun r hr z => by
      obtain ⟨o, e, n, _⟩ := y.std _ (x.fb _ (Sb _ z))
      rw [y.wl r hr] at e; exact n _ (Option.some.inj e).symm
    walk_at "nx"
    refine ⟨_, rfl, p, rfl, ⟨_, SqL.of ep⟩, for_list (K := K) (a := p) (xs := (fin x.hs x.ts n).map nint) (fun i σ H5 => ∃ v3 v4, σ = [some (.ref x.m), some (nint n), some (.ref p), v3, v4] ∧ Kp [x.b, x.c, x.n] H H5 ∧ H5 p = some (.lst ((fin x.hs x.ts n).map nint)) ∧
      H5 x.b = some (.lst ((taken x.ts ((fin x.hs x.ts n).take i) n).map enc)) ∧ H5 x.c = some (.dT (hdL (x.here.filter fun r => decide (r.f ∉ (fin x.hs x.ts n).take i)))) ∧
      ∃ gone : List Addr, H5 x.n = some (.lst (gone.map V.ref)) ∧ (∀ w ∈ gone, ∃ r ∈ x.rs, r.w = w) ∧ gone.length + (x.here.filter fun r => decide (r.f ∉ (fin x.hs x.ts n).take i)).length = x.rs.length)
      ⟨_, _, rfl, fun b o e _ => kH b o e (by simp), ep, kH _ _ y.lt (by simp), ?_, x.gone, kH _ _ y.ln (by simp), y.go, ?_⟩ (fun i σ H5 _ ⟨_, _, _, _, e, _⟩ => SqL.of e) ?_ ?_⟩
    · have e0 : x.here.filter (fun r => decide (r.f ∉ (fin x.hs x.ts n).take 0)) = x.here := List.filter_eq_self.mpr fun r _ => by simp
      rw [e0]; exact kH _ _ y.lc (by simp)
    · have e0 : x.here.filter (fun r => decide (r.f ∉ (fin x.hs x.ts n).take 0)) = x.here := List.filter_eq_self.mpr fun r _ => by simp
      rw [e0]; exact y.gc
    · rintro i v σ H5 hx ⟨v3, v4, rfl, k5, ep5, eb5, ec5, gone, en5, hgo, hgl⟩
      rw [List.getElem?_map] at hx
      obtain ⟨f, hf, rfl⟩ := Option.map_eq_some_iff.mp hx
      have hkt : x.ts[f]? = some none := fin_stand (List.mem_of_getElem? hf)
      have hft : f < x.ts.length := (List.getElem?_eq_some_iff.mp hkt).1
      obtain ⟨hi, efi⟩ := List.getElem?_eq_some_iff.mp hf
      have hnot : f ∉ (fin x.hs x.ts n).take i := by
        intro z
        obtain ⟨j, hj, ej⟩ := List.mem_iff_getElem.mp z
        rw [List.getElem_take] at ej
        rw [List.length_take] at hj
        have := (List.getElem_inj (fin_nd x.hs x.ts n)).mp (ej.trans efi.symm)
        omega
      have hfr : f < x.rl.length := by rw [y.rn]; omega
      have ef : x.rl[f]? = some x.rl[f] := List.getElem?_eq_getElem hfr
      have hlm := List.mem_of_getElem? ef
      generalize x.rl[f] = l at *
      have mS : x.m ∉ [x.b, x.c, x.n] := by simp [m2, m5, m6]
      have rS : x.r ∉ [x.b, x.c, x.n] := by simp [Ne.symm b1, r2, r3]
      have lS : l ∉ [x.b, x.c, x.n] := fun z => absurd rfl (y.base_rl (Sb _ z) hlm)
      -- by[one] = frame
      have hlen : (taken x.ts ((fin x.hs x.ts n).take i) n).length = x.ts.length := taken_len _ _ _
      refine ⟨_, rfl, _, rfl, x.m, _, rfl, dg_at (oS y.d mS H5 k5) x.v2, _, rfl, x.b, _, _, f, rfl, rfl, eb5, ?_, ?_⟩
      · rw [List.length_map, hlen]; exact ixN_n hft
      obtain ⟨H6, eH6⟩ : ∃ H6, H6 = upd H5 x.b (.lst (((taken x.ts ((fin x.hs x.ts n).take i) n).map enc).set f (nint n))) := ⟨_, rfl⟩
      have u6 : ∀ {b o}, H5 b = some o → b ≠ x.b → H6 b = some o := fun e n => by rw [eH6, upd_ne n]; exact e
      have w6 : H6 x.b = some (.lst ((taken x.ts ((fin x.hs x.ts n).take (i + 1)) n).map enc)) := by
        rw [eH6, upd_same, List.take_succ_eq_append_getElem hi, efi]
        have e : taken x.ts ((fin x.hs x.ts n).take i ++ [f]) n = (taken x.ts ((fin x.hs x.ts n).take i) n).set f (some (n : Int)) := by unfold taken; rw [List.foldl_append]; rfl
        rw [e, List.map_set]; rfl
      walk_at "nx"
      rw [← eH6]
      have k6 : Kp [x.b, x.c, x.n] H H6 := fun b o e nb => u6 (k5 b o e nb) (by simp only [List.mem_cons, not_or] at nb; exact nb.1)
      have ec6 := u6 ec5 (Ne.symm b3)
      have en6 := u6 en5 (Ne.symm b4)
      have ep6 := u6 ep5 (pnb _ x.b_)
      have el6 := oS (y.ll f l ef) lS H6 k6
      have L0s : (x.here.filter fun r => decide (r.f ∉ (fin x.hs x.ts n).take i)).Sublist x.here := List.filter_sublist
      generalize hL0 : (x.here.filter fun r => decide (r.f ∉ (fin x.hs x.ts n).take i)) = L0 at *
      have gsub : (x.giv f).Sublist x.rs := List.filter_sublist
      have gnd : ((x.giv f).map pk).Nodup := (gsub.map _).nodup y.kn
      have inL0 : ∀ r ∈ x.giv f, r ∈ L0 := fun r hr => by
        obtain ⟨h1, h2⟩ := mem_wgiv.mp hr
        rw [← hL0]
        exact List.mem_filter.mpr ⟨mem_whr.mpr ⟨h1, by rw [h2]; exact hkt⟩, decide_eq_true (by rw [h2]; exact hnot)⟩
      refine ⟨_, rfl, x.m, _, rfl, dg_at (oS y.d mS H6 k6) x.v3, _, rfl, x.r, _, _, .ref l, rfl, rfl, SqL.of (oS y.lr rS H6 k6), atI_nat (by rw [List.getElem?_map, ef]; rfl), l, rfl, ⟨_, SqL.of el6⟩,
        for_list (K := K) (a := l) (xs := (x.giv f).map fun r => V.ref r.w) (fun j σ H7 => ∃ v4, σ = [some (.ref x.m), some (nint n), some (.ref p), some (nint f), v4] ∧ Kp [x.c, x.n] H6 H7 ∧ H7 x.c = some (.dT (hdL (L0.filter fun r => decide (pk r ∉ ((x.giv f).take j).map pk)))) ∧
          H7 x.n = some (.lst ((gone ++ ((x.giv f).take j).map (·.w)).map V.ref))) ⟨_, rfl, Kp.refl, ?_, ?_⟩ (fun j σ H7 _ ⟨_, _, k, _⟩ => SqL.of (k _ _ el6 fun z => lS (List.mem_cons_of_mem _ z))) ?_ ?_⟩
      · rw [ec6]
        congr 3
        exact (List.filter_eq_self.mpr fun r _ => by simp).symm
      · rw [en6]; simp
      · rintro j v σ H7 hx2 ⟨v4', rfl, k7, ec7, en7⟩
        rw [List.getElem?_map] at hx2
        obtain ⟨r, hr2, rfl⟩ := Option.map_eq_some_iff.mp hx2
        obtain ⟨hj, er⟩ := List.getElem?_eq_some_iff.mp hr2
        have hm : r ∈ x.giv f := List.mem_of_getElem? hr2
        obtain ⟨hrs2, hrf⟩ := mem_wgiv.mp hm
        have hnot2 : pk r ∉ ((x.giv f).take j).map pk := by
          intro z
          have h1 : ((x.giv f).map pk)[j]? = some (pk r) := by rw [List.getElem?_map, hr2]; rfl
          rw [List.map_take] at z
          obtain ⟨j2, hj2, ej2⟩ := List.mem_iff_getElem.mp z
          rw [List.getElem_take] at ej2
          rw [List.length_take] at hj2
          obtain ⟨h3, h4⟩ := List.getElem?_eq_some_iff.mp h1
          have := (List.getElem_inj gnd).mp (ej2.trans h4.symm)
          omega
        have hmL : r ∈ L0.filter fun r => decide (pk r ∉ ((x.giv f).take j).map pk) := List.mem_filter.mpr ⟨inL0 r hm, decide_eq_true hnot2⟩
        have k67 : Kp [x.b, x.c, x.n] H H7 := fun b o e nb => k7 _ _ (k6 b o e nb) (by simp only [List.mem_cons, List.not_mem_nil, or_false, not_or] at nb ⊢; exact nb.2)
        have knL : ((L0.filter fun r => decide (pk r ∉ ((x.giv f).take j).map pk)).map Rm.key).Nodup := (((List.filter_sublist.trans L0s)).map _).nodup y.hkn
        refine ⟨_, rfl, x.m, _, rfl, dg_at (oS y.d mS H7 k67) x.v5, .inr (.inr (.inl ⟨rfl, .inr ⟨_, ec7⟩⟩)), _, rfl, x.c, _, r.key, r.w, _, rfl, rfl, ec7, oS (y.wl r hrs2) (wS r hrs2) H7 k67, hd_in knL hmL, ?_⟩
        obtain ⟨H8, eH8⟩ : ∃ H8, H8 = upd H7 x.c (.dT (dropK (hdL (L0.filter fun r => decide (pk r ∉ ((x.giv f).take j).map pk))) r.key)) := ⟨_, rfl⟩
        have u8 : ∀ {b o}, H7 b = some o → b ≠ x.c → H8 b = some o := fun e n => by rw [eH8, upd_ne n]; exact e
        have w8 : H8 x.c = some (.dT (hdL (L0.filter fun r => decide (pk r ∉ ((x.giv f).take (j + 1)).map pk)))) := by
          rw [eH8, upd_same, drop_hd, List.filter_filter]
          congr 3
          refine List.filter_congr fun z _ => ?_
          rw [List.take_succ_eq_append_getElem hj, List.map_append, er]
          rw [Bool.eq_iff_iff, Bool.and_eq_true, decide_eq_true_eq, decide_eq_true_eq, decide_eq_true_eq, List.mem_append, List.map_cons, List.map_nil, List.mem_singleton, not_or, Ne, key_pk]
          exact and_comm
        walk_at "nx"
        rw [← eH8]
        have k68 : Kp [x.b, x.c, x.n] H H8 := fun b o e nb => u8 (k67 b o e nb) (by simp only [List.mem_cons, not_or] at nb; exact nb.2.1)
        have en8 := u8 en7 (Ne.symm c1)
        have gl : gone.length + (x.giv f).length ≤ 100000 := by
          have h1 := giv_len x f
          omega
        refine ⟨_, rfl, x.m, _, rfl, dg_at (oS y.d mS H8 k68) x.v6, .inl ⟨rfl, _, SqL.of en8⟩, _, rfl, x.n, _, _, rfl, rfl, en8, sz_lt (by rw [List.length_map, List.length_append, List.length_map, List.length_take]; omega), ?_⟩
        refine ⟨_, rfl, fun b o e nb => ?_, ?_, ?_⟩
        · simp only [List.mem_cons, List.not_mem_nil, or_false, not_or] at nb
          exact (upd_ne nb.2).trans (u8 (k7 b o e (by simp [nb.1, nb.2])) nb.1)
        · exact (upd_ne c1).trans w8
        · rw [upd_same, List.take_succ_eq_append_getElem hj, List.map_append (f := fun r : Rm => r.w), ← List.append_assoc, List.map_append (f := V.ref) (l₁ := gone ++ _), er]; rfl
      · rintro σ H7 ⟨v4', rfl, k7, ec7, en7⟩
        rw [List.length_map, List.take_length] at ec7 en7
        have eF : L0.filter (fun r => decide (pk r ∉ (x.giv f).map pk)) = L0.filter fun r => decide (¬ r.f = f) := by
          refine List.filter_congr fun r hr => ?_
          rw [decide_eq_decide]
          have hr2 := x.sub.subset (L0s.subset hr)
          constructor
          · intro h z; exact h (List.mem_map.mpr ⟨r, mem_wgiv.mpr ⟨hr2, z⟩, rfl⟩)
          · intro h z
            obtain ⟨u, hu, eu⟩ := List.mem_map.mp z
            exact h ((congrArg Prod.fst eu).symm.trans (mem_wgiv.mp hu).2)
        have eG : L0.filter (fun r => decide (r.f = f)) = x.giv f := by
          rw [← hL0]
          unfold WSt.here WSt.giv
          rw [List.filter_filter, List.filter_filter]
          refine List.filter_congr fun r _ => ?_
          unfold WSt.up
          by_cases h : r.f = f
          · rw [h]; simp [hkt, hnot]
          · simp [h]
        have eN : L0.filter (fun r => decide (¬ r.f = f)) = x.here.filter fun r => decide (r.f ∉ (fin x.hs x.ts n).take (i + 1)) := by
          rw [← hL0, List.filter_filter]
          refine List.filter_congr fun r _ => ?_
          rw [List.take_succ_eq_append_getElem hi, efi]
          rw [Bool.eq_iff_iff, Bool.and_eq_true, decide_eq_true_eq, decide_eq_true_eq, decide_eq_true_eq, List.mem_append, List.mem_singleton, not_or]
          exact and_comm
        rw [eF, eN] at ec7
        have k67 : Kp [x.b, x.c, x.n] H H7 := fun b o e nb => k7 _ _ (k6 b o e nb) (by simp only [List.mem_cons, List.not_mem_nil, or_false, not_or] at nb ⊢; exact nb.2)
        have pC : p ∉ [x.c, x.n] := fun z => pS (List.mem_cons_of_mem _ z)
        refine ⟨_, _, rfl, k67, k7 _ _ ep6 pC, k7 _ _ w6 (by simp [b3, b4]), ec7, gone ++ (x.giv f).map (·.w), en7, fun w hw => ?_, ?_⟩
        · rcases List.mem_append.mp hw with z | z
          · exact hgo w z
          · obtain ⟨r, hr, e⟩ := List.mem_map.mp z
            exact ⟨r, (mem_wgiv.mp hr).1, e⟩
        · have hL := filt_split (fun r => decide (r.f = f)) L0
          rw [eG] at hL
          have e8 : (L0.filter fun r => !decide (r.f = f)) = L0.filter fun r => decide (¬ r.f = f) := List.filter_congr fun r _ => by simp
          rw [e8, eN] at hL
          rw [List.length_append, List.length_map]
          omega
    · rintro σ H5 ⟨v3, v4, rfl, k5, ep5, eb5, ec5, gone, en5, hgo, hgl⟩
      rw [List.length_map, List.take_length] at eb5 ec5 hgl
      obtain ⟨ye, fo⟩ := y.ended (f := n) (gone := gone) k5 eb5 ec5 en5 hgo hgl
      exact ⟨_, rfl, q p H5 gone hpH (k5.mono Sb) ye ep5⟩
end

end Lw
namespace Lw
open PySem PySem.Spec L2 FG
open PyProof.Rows hiding St
/-! ### the house and the law's rows tell the same -/
def rho (r : Rm) : Nat × Nat × List V := (r.f, r.o, r.cells)
theorem rho_filter {l m : List Rm} (e : l.map rho = m.map rho) (q : Nat × Nat × List V → Bool) : (l.filter fun r => q (rho r)).map rho = (m.filter fun r => q (rho r)).map rho := by
  have z : ∀ l : List Rm, (l.filter fun r => q (rho r)).map rho = (l.map rho).filter q := fun l => by rw [List.filter_map]; rfl
  rw [z, z, e]
theorem rho_szs {l m : List Rm} (e : l.map rho = m.map rho) : szs l = szs m := by
  have z : ∀ l : List Rm, szs l = ((l.map rho).map fun t => t.2.2.length).sum := fun l => by unfold szs; rw [List.map_map]; rfl
  rw [z, z, e]
theorem rho_mem {l m : List Rm} (e : l.map rho = m.map rho) {r : Rm} (h : r ∈ l) : ∃ q ∈ m, q.f = r.f ∧ q.o = r.o ∧ q.cells = r.cells := by
  have z : rho r ∈ m.map rho := e ▸ List.mem_map.mpr ⟨r, h, rfl⟩
  obtain ⟨q, hq, eq⟩ := List.mem_map.mp z
  exact ⟨q, hq, congrArg Prod.fst eq, congrArg (fun t => t.2.1) eq, congrArg (fun t => t.2.2) eq⟩
theorem rho_len {l m : List Rm} (e : l.map rho = m.map rho) : l.length = m.length := by simpa using congrArg List.length e
def setT (f o k : Nat) (v : V) (t : Nat × Nat × List V) : Nat × Nat × List V := if t.1 = f ∧ t.2.1 = o then (t.1, t.2.1, t.2.2.set k v) else t
theorem rho_set (f o k : Nat) (v : V) (l : List Rm) : (l.map (setR f o k v)).map rho = (l.map rho).map (setT f o k v) := by
  rw [List.map_map, List.map_map]
  refine List.map_congr_left fun r _ => ?_
  show rho (setR f o k v r) = setT f o k v (rho r)
  unfold setR setT rho
  by_cases h : r.f = f ∧ r.o = o
  · rw [if_pos h, if_pos h]
  · rw [if_neg h, if_neg h]
/-- what the law's cells hold -/
def ValM (ls : List Rm) (v : V) : Prop := v = .non ∨ (∃ z : Int, v = .int z ∧ z.natAbs < 10 ^ 37) ∨ ∃ r ∈ ls, v = .ref r.w
theorem ValM.mono {l m : List Rm} {v : V} (h : ValM l v) (s : ∀ r ∈ l, ∃ q ∈ m, q.w = r.w) : ValM m v := by
  rcases h with e | e | ⟨r, hr, e⟩
  · exact .inl e
  · exact .inr (.inl e)
  · obtain ⟨q, hq, ew⟩ := s r hr
    exact .inr (.inr ⟨q, hq, by rw [ew]; exact e⟩)
theorem HoAt.std {C : Addr} {H : Hp} {s : HSt} (x : HoAt C H s) : ∀ a ∈ s.foot, ∃ o, H a = some o ∧ (∀ xs, o ≠ .tup xs) ∧ (∀ b u, o ≠ .frz b u) := by
  obtain ⟨dx, fs, e, _⟩ := x.ob
  intro a ha
  unfold HSt.foot at ha
  rcases List.mem_append.mp ha with h | h
  · rcases List.mem_append.mp h with h | h
    · simp only [List.mem_cons, List.not_mem_nil, or_false] at h
      rcases h with rfl | rfl | rfl | rfl | rfl | rfl | rfl
      · exact ⟨_, e, (fun _ c => by cases c), (fun _ _ c => by cases c)⟩
      · exact ⟨_, x.lh, (fun _ c => by cases c), (fun _ _ c => by cases c)⟩
      · exact ⟨_, x.lt, (fun _ c => by cases c), (fun _ _ c => by cases c)⟩
      · exact ⟨_, x.gd, (fun _ c => by cases c), (fun _ _ c => by cases c)⟩
      · exact ⟨_, x.fd, (fun _ c => by cases c), (fun _ _ c => by cases c)⟩
      · exact ⟨_, x.sd, (fun _ c => by cases c), (fun _ _ c => by cases c)⟩
      · exact ⟨_, x.hd, (fun _ c => by cases c), (fun _ _ c => by cases c)⟩
    · obtain ⟨y, hy, rfl⟩ := List.mem_map.mp h
      exact ⟨_, x.gl y hy, (fun _ c => by cases c), (fun _ _ c => by cases c)⟩
  · obtain ⟨r, hr, rfl⟩ := List.mem_map.mp h
    exact ⟨_, x.cl r hr, (fun _ c => by cases c), (fun _ _ c => by cases c)⟩
theorem set_foot (s : HSt) (f o k : Nat) (v : V) : (s.setc f o k v).foot = s.foot := by
  have e : ((s.setc f o k v).here.map fun z : Rm => z.c) = s.here.map fun z : Rm => z.c := by
    rw [set_here]; exact map_set (fun z : Rm => z.c) f o k v (fun z => (setR_eq f o k v z).2.2.1) s.here
  unfold HSt.foot
  rw [e]; rfl
structure HW (K : PySem.W.Frag) (H : Hp) (s : HSt) (x : WSt) : Prop where
  ho : HoAt (CH K) H s
  wa : WAt H x
  eh : x.hs = s.hs
  et : x.ts = s.ts
  er : x.rs.map rho = s.rs.map rho
  gr : s.ts[0]? = some none
  tk : TOk s.ts
  vm : ∀ r ∈ x.rs, ∀ v ∈ r.cells, ValM x.rs v
  lim : x.lim = s.most
  tp : x.top = s.top
  dj : ∀ a ∈ s.foot, a ∉ x.foot
def Grow (H : Hp) (s : HSt) (x : WSt) (s' : HSt) (x' : WSt) : Prop := s'.p = s.p ∧ x'.m = x.m ∧ (∀ a, a ∈ s'.foot ∨ a ∈ x'.foot → a ∈ s.foot ∨ a ∈ x.foot ∨ H a = none) ∧ s'.rs.length ≤ s.rs.length + 1 ∧ s'.most = s.most ∧ ∀ r ∈ x.rs, ∃ q ∈ x'.rs, q.w = r.w
theorem not_tup {H : Hp} {F S : List Addr} (std : ∀ a ∈ F, ∃ o, H a = some o ∧ (∀ xs, o ≠ .tup xs) ∧ (∀ b v, o ≠ .frz b v)) (h : ∀ a ∈ S, a ∈ F) : ∀ a ∈ S, ∀ xs, H a ≠ some (.tup xs) := fun a ha xs e => by
  obtain ⟨o, e2, n, _⟩ := std a (h a ha)
  rw [e] at e2; exact n xs (Option.some.inj e2).symm
section
variable {K : PySem.W.Frag} {H H5 H6 : Hp} {s s' : HSt} {x x' : WSt}
theorem HW.kp {S : List Addr} (y : HW K H s x) (k : Kp S H H5) (h1 : ∀ a ∈ S, a ∉ s.foot) (h2 : ∀ a ∈ S, a ∉ x.foot) (hT : ∀ a ∈ S, ∀ xs, H a ≠ some (.tup xs)) : HW K H5 s x :=
  ⟨y.ho.kp k h1 hT, y.wa.kp k h2 hT, y.eh, y.et, y.er, y.gr, y.tk, y.vm, y.lim, y.tp, y.dj⟩
theorem HW.kp0 (y : HW K H s x) (k : Kp [] H H5) : HW K H5 s x := y.kp k (fun _ z => by cases z) (fun _ z => by cases z) (fun _ z => by cases z)
theorem BoxAt.nt {H : Hp} {b : Addr} {n : Int} (x : BoxAt H b n) : ∀ c ∈ [b], ∀ xs, H c ≠ some (.tup xs) := by
  obtain ⟨_, _, _, e, _⟩ := x
  intro c hc xs h; rw [List.mem_singleton] at hc; subst hc; rw [e] at h; cases h
theorem HW.kpb {b : Addr} {n : Int} (y : HW K H s x) (k : Kp [b] H H5) (bx : BoxAt H b n) (h1 : b ∉ s.foot) (h2 : b ∉ x.foot) : HW K H5 s x :=
  y.kp k (fun a ha => by rw [List.mem_singleton] at ha; rw [ha]; exact h1) (fun a ha => by rw [List.mem_singleton] at ha; rw [ha]; exact h2) bx.nt
theorem HW.eGiv (y : HW K H s x) (f : Nat) : (x.giv f).map rho = (s.giv f).map rho := rho_filter y.er fun t => decide (t.1 = f)
theorem HW.eFill (y : HW K H s x) (f : Nat) : szs (x.giv f) = s.fill f := rho_szs (y.eGiv f)
theorem HW.eHere (y : HW K H s x) : x.here.map rho = s.here.map rho := by
  have e : x.up = s.up := funext fun r => by unfold WSt.up HSt.up; rw [y.et]
  unfold WSt.here HSt.here
  rw [e]
  exact rho_filter y.er fun t => decide (s.ts[t.1]? = some none)
theorem HW.eUsed (y : HW K H s x) : szs x.here = s.used := rho_szs y.eHere
theorem HW.len (y : HW K H s x) : x.rs.length = s.rs.length := rho_len y.er
theorem HW.sz (y : HW K H s x) {r : Rm} (hr : r ∈ x.rs) : 1 ≤ r.cells.length ∧ r.cells.length ≤ 6 := by
  obtain ⟨q, hq, _, _, e3⟩ := rho_mem y.er hr
  have := y.ho.pl.sz q hq
  rw [e3] at this; exact this
theorem HW.fresh (y : HW K H s x) (f : Nat) : ∀ r ∈ x.rs, ¬ (r.f = f ∧ r.o = szs (x.giv f)) := fun r hr2 z => by
  obtain ⟨p, hp, e1, e2, _⟩ := rho_mem y.er hr2
  exact new_key y.ho.pl f p hp ⟨e1.trans z.1, by rw [e2, z.2, y.eFill f]⟩
theorem HW.vok (y : HW K H s x) {v : V} (h : ValM x.rs v) : VOk H s.rs v := by
  rcases h with e | ⟨z, e, _⟩ | ⟨r, hr, e⟩
  · exact .inl e
  · exact .inr (.inl ⟨z, e⟩)
  · obtain ⟨q, hq, e1, e2, _⟩ := rho_mem y.er hr
    exact .inr (.inr ⟨q, hq, r.w, e, by rw [e1, e2]; exact y.wa.wl r hr⟩)
/-- both make a step: first the house, then the law's rows -/
theorem HW.step {S5 S6 : List Addr} (y : HW K H s x) (k5 : Kp S5 H H5) (h5 : ∀ a ∈ S5, a ∈ s.foot) (h5' : ∀ a ∈ S5, a ∈ s'.foot) (ho5 : HoAt (CH K) H5 s') (hf : ∀ a ∈ s'.foot, a ∈ s.foot ∨ H a = none)
    (k6 : Kp S6 H5 H6) (h6 : ∀ a ∈ S6, a ∈ x.foot) (wa6 : WAt H6 x') (xf : ∀ a ∈ x'.foot, a ∈ x.foot ∨ H5 a = none) (eh : x'.hs = s'.hs) (et : x'.ts = s'.ts) (er : x'.rs.map rho = s'.rs.map rho) (gr : s'.ts[0]? = some none) (tk : TOk s'.ts)
    (vm : ∀ r ∈ x'.rs, ∀ v ∈ r.cells, ValM x'.rs v) (lim : x'.lim = s'.most) (tp : x'.top = s'.top) (ep : s'.p = s.p) (em : x'.m = x.m) (el : s'.rs.length ≤ s.rs.length + 1) (emo : s'.most = s.most) (wm : ∀ r ∈ x.rs, ∃ q ∈ x'.rs, q.w = r.w) :
    HW K H6 s' x' ∧ Kp (s.foot ++ x.foot) H H6 ∧ Grow H s x s' x' := by
  have wa5 : WAt H5 x := y.wa.kp k5 (fun a ha => y.dj a (h5 a ha)) (not_tup y.ho.std h5)
  have sx : ∀ a ∈ s'.foot, a ∉ x.foot := fun a ha z => by
    rcases hf a ha with h | h
    · exact y.dj a h z
    · obtain ⟨o, e, _⟩ := y.wa.std a z
      rw [h] at e; cases e
  have ho6 := ho5.kp k6 (fun a ha z => sx a z (h6 a ha)) (not_tup wa5.std h6)
  have fr : ∀ a, H5 a = none → H a = none := fun a h => by
    cases e : H a with
    | none => rfl
    | some o =>
      by_cases hin : a ∈ S5
      · obtain ⟨o2, e2, _⟩ := ho5.std a (h5' a hin); rw [h] at e2; cases e2
      · rw [k5 a o e hin] at h; cases h
  refine ⟨⟨ho6, wa6, eh, et, er, gr, tk, vm, lim, tp, fun a ha z => ?_⟩, (k5.mono fun a ha => List.mem_append_left _ (h5 a ha)).trans (k6.mono fun a ha => List.mem_append_right _ (h6 a ha)), ep, em, fun a ha => ?_, el, emo, wm⟩
  · rcases xf a z with h | h
    · exact sx a ha h
    · obtain ⟨o, e, _⟩ := ho5.std a ha; rw [h] at e; cases e
  · rcases ha with z | z
    · rcases hf a z with h | h
      · exact .inl h
      · exact .inr (.inr h)
    · rcases xf a z with h | h
      · exact .inr (.inl h)
      · exact .inr (.inr (fr a h))
theorem footS (s : HSt) : ∀ a, a ∈ [s.p, s.h, s.t, s.gd, s.fd, s.sd, s.hd] → a ∈ s.foot := fun a h => List.mem_append_left _ (List.mem_append_left _ h)
theorem taken_up {f : Nat} (ks : List Nat) (ts : List (Option Int)) (i : Nat) (h : (taken ts ks f)[i]? = some none) : ts[i]? = some none := ((taken_none ks ts i).mp h).1
theorem ended_foot {s : HSt} {ks : List Nat} {f : Nat} : ∀ a ∈ (s.withF s.hs (taken s.ts ks f)).foot, a ∈ s.foot := by
  intro a ha
  unfold HSt.foot at ha ⊢
  rcases List.mem_append.mp ha with h | h
  · exact List.mem_append_left _ h
  · refine List.mem_append_right _ ?_
    obtain ⟨r, hr, e⟩ := List.mem_map.mp h
    obtain ⟨h1, h2⟩ := List.mem_filter.mp hr
    exact List.mem_map.mpr ⟨r, mem_here h1 (decide_eq_true (taken_up ks s.ts r.f (of_decide_eq_true h2))), e⟩
theorem begun_foot {s : HSt} (x : HPl s) (wl : s.ts.length = s.hs.length) (hs : List (Option Int)) : (s.withF hs (s.ts ++ [none])).foot = s.foot := by
  unfold HSt.foot
  rw [begun_here x wl hs]; rfl
theorem made_foot {s : HSt} {f k : Nat} {a c w : Addr} (h : s.ts[f]? = some none) : ∀ b ∈ (s.made f k a c w).foot, b ∈ s.foot ∨ b = a ∨ b = c := by
  intro b hb
  unfold HSt.foot at hb ⊢
  rw [made_here h, List.map_append] at hb
  rcases List.mem_append.mp hb with z | z
  · rcases List.mem_append.mp z with z | z
    · exact .inl (List.mem_append_left _ (List.mem_append_left _ z))
    · obtain ⟨q, hq, rfl⟩ := List.mem_map.mp z
      have hq2 : q ∈ s.gsPut f a := hq
      unfold HSt.gsPut at hq2
      split at hq2
      · obtain ⟨q0, h0, e0⟩ := List.mem_map.mp hq2
        split at e0
        · exact .inr (.inl (by rw [← e0]))
        · exact .inl (List.mem_append_left _ (List.mem_append_right _ (List.mem_map.mpr ⟨q0, h0, by rw [e0]⟩)))
      · rcases List.mem_append.mp hq2 with h1 | h1
        · exact .inl (List.mem_append_left _ (List.mem_append_right _ (List.mem_map.mpr ⟨q, h1, rfl⟩)))
        · rw [List.mem_singleton] at h1; exact .inr (.inl (by rw [h1]))
  · rcases List.mem_append.mp z with z | z
    · exact .inl (List.mem_append_right _ z)
    · exact .inr (.inr (by simpa using z))
theorem HW.begin2 {f : Nat} {l : Addr} {S6 : List Addr} (y : HW K H s x) (k5 : Kp [s.h, s.t] H H5) (fr5 : FrAt (CH K) H5 s.p s.h s.t (s.hs ++ [some (f : Int)]) (s.ts ++ [none])) (k6 : Kp S6 H5 H6) (h6 : ∀ a ∈ S6, a ∈ x.foot)
    (wa6 : WAt H6 (x.begun f l)) (xf : ∀ a ∈ (x.begun f l).foot, a ∈ x.foot ∨ a = l) (hl : H5 l = none) :
    HW K H6 (s.withF (s.hs ++ [some (f : Int)]) (s.ts ++ [none])) (x.begun f l) ∧ Kp (s.foot ++ x.foot) H H6 ∧ Grow H s x (s.withF (s.hs ++ [some (f : Int)]) (s.ts ++ [none])) (x.begun f l) := by
  have wf := y.ho.wf
  have ef := begun_foot y.ho.pl wf.len (s.hs ++ [some (f : Int)])
  refine y.step k5 (fun a ha => ?_) (fun a ha => ?_) (y.ho.begun k5 fr5) (fun a ha => .inl (ef ▸ ha)) k6 h6 wa6 (fun a ha => (xf a ha).imp id fun (e : a = l) => by rw [e]; exact hl) ?_ ?_ y.er ?_ y.tk.more (fun r hr v hv => y.vm r hr v hv) y.lim y.tp rfl rfl (by show s.rs.length ≤ _; omega) rfl (fun r hr => ⟨r, hr, rfl⟩)
  · refine footS s a ?_
    simp only [List.mem_cons, List.not_mem_nil, or_false] at ha ⊢
    rcases ha with z | z <;> simp [z]
  · rw [ef]
    refine footS s a ?_
    simp only [List.mem_cons, List.not_mem_nil, or_false] at ha ⊢
    rcases ha with z | z <;> simp [z]
  · show x.hs ++ _ = s.hs ++ _; rw [y.eh]
  · show x.ts ++ _ = s.ts ++ _; rw [y.et]
  · show (s.ts ++ [none])[0]? = _
    rw [List.getElem?_append_left (by have := wf.pos; have := wf.len; omega)]; exact y.gr
theorem HW.finish2 {f : Nat} {gone : List Addr} {S6 : List Addr} (y : HW K H s x) (hf0 : 0 < f) (hfl : f < s.ts.length) (k5 : Kp [s.t, s.hd] H H5) (ho5 : HoAt (CH K) H5 (s.withF s.hs (taken s.ts (fin s.hs s.ts f) f)))
    (k6 : Kp S6 H5 H6) (h6 : ∀ a ∈ S6, a ∈ x.foot) (wa6 : WAt H6 (x.ended (taken x.ts (fin x.hs x.ts f) f) gone)) :
    HW K H6 (s.withF s.hs (taken s.ts (fin s.hs s.ts f) f)) (x.ended (taken x.ts (fin x.hs x.ts f) f) gone) ∧ Kp (s.foot ++ x.foot) H H6 ∧ Grow H s x (s.withF s.hs (taken s.ts (fin s.hs s.ts f) f)) (x.ended (taken x.ts (fin x.hs x.ts f) f) gone) := by
  have wf := y.ho.wf
  have ws := wf.small
  have wl := wf.len
  refine y.step k5 (fun a ha => ?_) (fun a ha => ?_) ho5 (fun a ha => .inl (ended_foot a ha)) k6 h6 wa6 (fun a ha => .inl ?_) y.eh ?_ y.er (ground_stays wf y.gr hf0) (y.tk.taken (by omega) _) (fun r hr v hv => y.vm r hr v hv) y.lim y.tp rfl rfl (by show s.rs.length ≤ _; omega) rfl (fun r hr => ⟨r, hr, rfl⟩)
  · refine footS s a ?_
    simp only [List.mem_cons, List.not_mem_nil, or_false] at ha ⊢
    rcases ha with z | z <;> simp [z]
  · refine footS _ a ?_
    show a ∈ [s.p, s.h, s.t, s.gd, s.fd, s.sd, s.hd]
    simp only [List.mem_cons, List.not_mem_nil, or_false] at ha ⊢
    rcases ha with z | z <;> simp [z]
  · have sub : (x.ended (taken x.ts (fin x.hs x.ts f) f) gone).here.Sublist x.here := by rw [wended_here]; exact List.filter_sublist
    exact (List.Sublist.append (List.Sublist.refl _) (sub.map _)).subset ha
  · show taken x.ts _ f = taken s.ts _ f; rw [y.eh, y.et]
theorem HW.make2 {f k t : Nat} {a c w c2 w2 : Addr} {S6 : List Addr} (y : HW K H s x) (hup : s.ts[f]? = some none) (ha : H a = none) (hc : H c = none) (k5 : Kp [s.p, s.gd, s.fd, s.sd, s.hd] H H5) (ho5 : HoAt (CH K) H5 (s.made f k a c w))
    (k6 : Kp S6 H5 H6) (h6 : ∀ a ∈ S6, a ∈ x.foot) (wa6 : WAt H6 (x.made f k t c2 w2)) (xf : ∀ a ∈ (x.made f k t c2 w2).foot, a ∈ x.foot ∨ a = c2) (hc2 : H5 c2 = none) (ht : t = max x.top (szs x.here + k)) :
    HW K H6 (s.made f k a c w) (x.made f k t c2 w2) ∧ Kp (s.foot ++ x.foot) H H6 ∧ Grow H s x (s.made f k a c w) (x.made f k t c2 w2) := by
  refine y.step k5 (fun a ha => ?_) (fun a ha => ?_) ho5 (fun b hb => ?_) k6 h6 wa6 (fun b hb => (xf b hb).imp id fun (e : b = c2) => by rw [e]; exact hc2) y.eh y.et ?_ y.gr y.tk (fun r hr v hv => ?_) y.lim ?_ rfl rfl ?_ rfl (fun r hr => ⟨r, List.mem_append_left _ hr, rfl⟩)
  · refine footS s a ?_
    simp only [List.mem_cons, List.not_mem_nil, or_false] at ha ⊢
    rcases ha with z | z | z | z | z <;> simp [z]
  · refine footS _ a ?_
    show a ∈ [s.p, s.h, s.t, s.gd, s.fd, s.sd, s.hd]
    simp only [List.mem_cons, List.not_mem_nil, or_false] at ha ⊢
    rcases ha with z | z | z | z | z <;> simp [z]
  · rcases made_foot hup b hb with e | e | e
    · exact .inl e
    · exact .inr (e ▸ ha)
    · exact .inr (e ▸ hc)
  · show (x.rs ++ [_]).map rho = (s.rs ++ [_]).map rho
    rw [List.map_append, List.map_append, y.er, List.map_singleton, List.map_singleton]
    unfold rho
    rw [y.eFill f]
  · have up : ∀ r ∈ x.rs, ∃ q ∈ (x.made f k t c2 w2).rs, q.w = r.w := fun r hr => ⟨r, List.mem_append_left _ hr, rfl⟩
    rcases List.mem_append.mp (show r ∈ x.rs ++ [_] from hr) with z | z
    · exact (y.vm r z v hv).mono up
    · rw [List.mem_singleton] at z; subst z
      exact .inl (List.eq_of_mem_replicate hv)
  · show t = max s.top (s.used + k)
    rw [ht, y.tp, y.eUsed]
  · show (s.rs ++ [_]).length ≤ _; rw [List.length_append]; exact Nat.le_refl _
theorem HW.put2 {r p : Rm} {k : Nat} {v : V} (y : HW K H s x) (hr : r ∈ x.here) (hp : p ∈ s.here) (e1 : p.f = r.f) (e2 : p.o = r.o) (hv : ValM x.rs v) (k6 : Kp [r.c] H H5) (e6 : H5 r.c = some (.lst (r.cells.set k v)))
    (k5 : Kp [p.c] H5 H6) (ho6 : HoAt (CH K) H6 (s.setc p.f p.o k v)) :
    HW K H6 (s.setc r.f r.o k v) (x.setc r.f r.o k v) ∧ Kp (s.foot ++ x.foot) H H6 ∧ Grow H s x (s.setc r.f r.o k v) (x.setc r.f r.o k v) := by
  have crx : r.c ∈ x.foot := x.fc r hr
  have cps : p.c ∈ s.foot := List.mem_append_right _ (List.mem_map.mpr ⟨p, hp, rfl⟩)
  obtain ⟨wa5, ef⟩ := y.wa.setc hr k6 e6
  have wa6 := wa5.kp k5 (fun a ha z => by rw [List.mem_singleton] at ha; rw [ha, ef] at z; exact y.dj _ cps z) (by
    have ho5 : HoAt (CH K) H5 s := y.ho.kp k6 (fun a ha z => by rw [List.mem_singleton] at ha; rw [ha] at z; exact y.dj _ z crx) (not_tup y.wa.std fun a ha => by rw [List.mem_singleton] at ha; rw [ha]; exact crx)
    exact not_tup ho5.std fun a ha => by rw [List.mem_singleton] at ha; rw [ha]; exact cps)
  rw [e1, e2] at ho6
  refine ⟨⟨ho6, wa6, y.eh, y.et, ?_, y.gr, y.tk, fun q hq u hu => ?_, y.lim, y.tp, fun a ha => ?_⟩, (k6.mono fun a ha => ?_).trans (k5.mono fun a ha => ?_), rfl, rfl, fun a ha => ?_, by show (s.rs.map _).length ≤ _; rw [List.length_map]; omega, rfl, fun r' hr' => ⟨setR r.f r.o k v r', List.mem_map.mpr ⟨r', hr', rfl⟩, (setR_eq r.f r.o k v r').2.2.2.1⟩⟩
  · show (x.rs.map _).map rho = (s.rs.map _).map rho
    rw [rho_set, rho_set, y.er]
  · have up : ∀ r' ∈ x.rs, ∃ q ∈ (x.setc r.f r.o k v).rs, q.w = r'.w := fun r' hr' => ⟨setR r.f r.o k v r', List.mem_map.mpr ⟨r', hr', rfl⟩, (setR_eq r.f r.o k v r').2.2.2.1⟩
    obtain ⟨z, hz, rfl⟩ := List.mem_map.mp (show q ∈ x.rs.map (setR r.f r.o k v) from hq)
    unfold setR at hu
    split at hu
    · rcases List.mem_or_eq_of_mem_set hu with h | h
      · exact (y.vm z hz u h).mono up
      · rw [h]; exact hv.mono up
    · exact (y.vm z hz u hu).mono up
  · rw [set_foot] at ha
    rw [ef]; exact y.dj a ha
  · rw [List.mem_singleton] at ha; rw [ha]; exact List.mem_append_right _ crx
  · rw [List.mem_singleton] at ha; rw [ha]; exact List.mem_append_left _ cps
  · rw [set_foot, ef] at ha
    rcases ha with z | z
    · exact .inl z
    · exact .inr (.inl z)
end

end Lw
namespace Lw
open PySem PySem.Spec L2 FG
open PyProof.Rows hiding St
theorem lay_nints (xs : List Nat) : PyData.canLayAll0 (xs.map pnint) = true ∧ PyData.depthAll (xs.map pnint) ≤ 0 := by
  induction xs with
  | nil => exact ⟨rfl, Nat.le_refl _⟩
  | cons x xs ih =>
    refine ⟨?_, ?_⟩
    · simp only [List.map_cons, PyData.canLayAll0, pnint, PyData.canLay0, Bool.true_and]; exact ih.1
    · simp only [List.map_cons, PyData.depthAll, pnint, PyData.depth]; have := ih.2; omega
theorem shaped_nints (xs : List Nat) : SeqAt.shaped (.list (xs.map pnint)) = true := by
  obtain ⟨a, b⟩ := lay_nints xs
  unfold SeqAt.shaped
  rw [Bool.and_eq_true, decide_eq_true_eq]
  exact ⟨by simp only [PyData.canLay0]; exact a, by simp only [PyData.depth]; omega⟩
theorem eqv_self {d : PyData} (h : SeqAt.shaped d = true) : PyData.eqv d d = true := by
  unfold SeqAt.shaped at h
  rw [Bool.and_eq_true] at h
  exact SeqAt.eqv_refl d h.1
def wayD (f o : Nat) : PyData := .tuple [pnint f, pnint o]
theorem shaped_way (f o : Nat) : SeqAt.shaped (wayD f o) = true := rfl
theorem dp_way {K : PySem.W.Frag} {H : Hp} {q : Addr} {f o : Nat} (e : H q = some (.tup [.int (f : Int), .int (o : Int)])) : Dp K H (.ref q) (wayD f o) := .tup (SqT.of e) (.cons (.int _) (.cons (.int _) .nil))
theorem at_any {xs : List V} {i : Int} (h0 : 0 ≤ i) (h1 : i < xs.length) : ∃ v, v ∈ xs ∧ atI xs i = some v := by
  obtain ⟨j, rfl⟩ : ∃ j : Nat, i = j := ⟨i.toNat, by omega⟩
  have hj : j < xs.length := by omega
  exact ⟨xs[j], List.getElem_mem hj, atI_nat (List.getElem?_eq_getElem hj)⟩
def allW (x : WSt) : List Rm := (stand x.ts).flatMap x.giv
theorem mem_all {x : WSt} {r : Rm} : r ∈ allW x ↔ r ∈ x.here := by
  unfold allW
  rw [List.mem_flatMap, mem_whr]
  constructor
  · rintro ⟨f, hf, hr⟩
    obtain ⟨h1, h2⟩ := mem_wgiv.mp hr
    exact ⟨h1, by rw [h2]; exact mem_stand.mp hf⟩
  · rintro ⟨h1, h2⟩
    exact ⟨r.f, mem_stand.mpr h2, mem_wgiv.mpr ⟨h1, rfl⟩⟩
theorem allW_len (x : WSt) : (allW x).length ≤ x.rs.length := all_len x _ (stand_nd _)
def spWValue : Sp := fun vs H Q _ => ∃ (x : WSt) (b : Addr) (n : Int), vs = [.ref b, .ref x.m] ∧ BoxAt H b n ∧ n < 100000000 ∧ WAt H x ∧ b ∉ x.foot ∧ x.rs.length ≤ 1000 ∧ ∀ H' v, ValM x.rs v → Kp [b] H H' → BoxAt H' b (n + 4) → Q v H'
def spWDeed (K : PySem.W.Frag) : Sp := fun vs H Q _ => ∃ (s : HSt) (x : WSt) (b : Addr) (n : Int), vs = [.ref b, .ref s.p, .ref x.m] ∧ BoxAt H b n ∧ n < 10000000 ∧ HW K H s x ∧ b ∉ s.foot ∧ b ∉ x.foot ∧ s.rs.length ≤ 900 ∧
  ∀ H' s' x', Kp (b :: (s.foot ++ x.foot)) H H' → HW K H' s' x' → Grow H s x s' x' → BoxAt H' b (n + 20) → Q (.bl true) H'
section
variable {P : Program} {w : World} {K : PySem.W.Frag} {mg : Str → Option Value} {base : Heap}
theorem ok_wvalue (T : Tx K mg) {fd : FuncData} (F : Fun K "_law_value" "_law_value" s__law_value (He.ga K "_law_value") fd) (c__law_take : Cal P w K mg base 1 "_law_take" spTake) (c__law_all_rooms : Cal P w K mg base 2 "_law_all_rooms" spWAll) : FnG P w K mg base 3 (He.ga K "_law_value") fd ["_law_box_here", "_law_world_here"] spWValue := by
  refine FnG.of F sc__law_value (fun vs H Q E h => ?_) (fun cdv A outer s H vs Q E hr h => ?_)
  · obtain ⟨x, b, n, rfl, _⟩ := h; rfl
  · obtain ⟨x, b, n, rfl, hb, hn, y, nb, hl, q⟩ := h
    have nbS : ∀ a ∈ [b], a ∉ x.foot := fun a ha => by rw [List.mem_singleton] at ha; rw [ha]; exact nb
    have e30 : (10 : Int) ^ Int.toNat 30 = 1000000000000000000000000000000 := by decide +kernel
    have e29 : (10 : Int) ^ Int.toNat 29 = 100000000000000000000000000000 := by decide +kernel
    have e37 : (10 : Nat) ^ 37 = 10000000000000000000000000000000000000 := by decide +kernel
    have al := allW_len x
    refine ⟨_, pss_cons (ps_set (i := 2) sc__law_value.nd rfl (by first | exact Or.inl rfl | exact Or.inr rfl) (gc c__law_take (hr.mono (by decide)) takes0 (pa_cons (pv 0) (pa_cons (pe_int) (pa_nil)))))
      (pss_cons (ps_set (i := 3) sc__law_value.nd rfl (by first | exact Or.inl rfl | exact Or.inr rfl) (gc c__law_all_rooms (hr.mono (by decide)) takes0 (pa_cons (pv 1) (pa_nil))))
      (pss_cons (ps_if (pt_cmpR op_eq (pv 2) (pe_int) (by first | exact nomark _ | rfl)) (pss_one (ps_ret (pe_non))) (pss_nil))
      (pss_cons (ps_if (pt_cmpR op_eq (pv 2) (pe_int) (by first | exact nomark _ | rfl)) (pss_one (ps_ret (pe_ix (kixL K) (pe_lst (pa_cons (pe_int) (pa_cons (pe_int) (pa_cons (pe_un un_neg (pe_int)) (pa_cons (pe_op op_sub (gc c__law_take (hr.mono (by decide)) takes0 (pa_cons (pv 0) (pa_cons (pe_op op_pow (pe_int) (pe_int)) (pa_nil)))) (pe_op op_mul (pe_int) (pe_op op_pow (pe_int) (pe_int)))) (pa_nil)))))) (gc c__law_take (hr.mono (by decide)) takes0 (pa_cons (pv 0) (pa_cons (pe_int) (pa_nil)))) (fun _ _ => rfl)))) (pss_nil))
      (pss_cons (ps_if (PW.pt (pw_and (pt_cmpR op_eq (pv 2) (pe_int) (by first | exact nomark _ | rfl)) (pw_and1 (pt_cmpR (kneE K hr.r.units) (pe_dget hr.hu (pv 1) (pe_str) (fun _ _ => rfl)) (pe_lst (pa_nil)) (by first | exact nomark _ | rfl))))) (pss_one (ps_ret (pe_ix (kixL K) (pe_dget hr.hu (pv 1) (pe_str) (fun _ _ => rfl)) (gc c__law_take (hr.mono (by decide)) takes0 (pa_cons (pv 0) (pa_cons (pe_callB (klen K) (by rfl) T.z_len PySem.boot_len (pa_cons (pe_dget hr.hu (pv 1) (pe_str) (fun _ _ => rfl)) (pa_nil))) (pa_nil)))) (fun _ _ => rfl)))) (pss_nil))
      (pss_cons (ps_if (pt_cmpR (keqE K hr.r.units) (pv 3) (pe_lst (pa_nil)) (by first | exact nomark _ | rfl)) (pss_one (ps_ret (pe_int))) (pss_nil))
      (pss_one (ps_ret (pe_ix (kixL K) (pv 3) (gc c__law_take (hr.mono (by decide)) takes0 (pa_cons (pv 0) (pa_cons (pe_callB (klen K) (by rfl) T.z_len PySem.boot_len (pa_cons (pv 3) (pa_nil))) (pa_nil)))) (fun _ _ => rfl))))))))), ?_⟩
    refine ⟨_, rfl, b, n, 8, rfl, hb, by omega, by decide, by decide, fun H1 kd k1 hb1 w0 w1 => ?_⟩
    have y1 := y.kp k1.kp nbS hb.nt
    refine ⟨_, rfl, x, rfl, y1, hl, fun l H2 hl2 k2 el2 => ?_⟩
    have y2 := y1.kp0 k2
    have hb2 := hb1.kp k2 (by simp)
    have nl : l ≠ b := (hb1.ne hl2)
    have K2 : Kp [b] H H2 := k1.kp.trans (k2.mono (by simp))
    refine ⟨_, rfl, rfl, _, rfl, iteB (fun _ => ?_) (fun _ => ?_)⟩
    · exact q _ _ (.inl rfl) K2 (hb2.more (by omega))
    refine ⟨_, rfl, rfl, _, rfl, iteB (fun _ => ?_) (fun _ => ?_)⟩
    · refine ⟨_, rfl, _, rfl, _, _, rfl, rfl, ⟨by decide, by decide, by decide⟩, b, _, _, rfl, hb2, by omega, by decide +kernel, by decide +kernel, fun H3 d k3 hb3 d0 d1 => ?_⟩
      rw [e30] at d1
      refine ⟨_, _, rfl, rfl, ⟨by decide, by decide, by decide⟩, _, _, rfl, rfl, .inl ⟨by decide, by decide⟩, _, _, rfl, rfl, (by show 4 ≤ sizeLine; decide), fun r hr2 => ?_⟩
      obtain ⟨xs, exs⟩ : ∃ xs, xs = [V.int 0, .int 1, .int (-1), .int (d - 5 * 10 ^ Int.toNat 29)] := ⟨_, rfl⟩
      have hx : ∀ u ∈ xs, ValM x.rs u := by
        rw [exs, e29]
        intro u hu
        simp only [List.mem_cons, List.not_mem_nil, or_false] at hu
        rcases hu with rfl | rfl | rfl | rfl
        · exact .inr (.inl ⟨0, rfl, by rw [e37]; decide⟩)
        · exact .inr (.inl ⟨1, rfl, by rw [e37]; decide⟩)
        · exact .inr (.inl ⟨-1, rfl, by rw [e37]; decide⟩)
        · exact .inr (.inl ⟨_, rfl, by rw [e37]; omega⟩)
      have hx4 : xs.length = 4 := by rw [exs]; rfl
      walk_at "nx"
      rw [← exs]
      have hb4 := hb3.new (o := .lst xs) hr2
      have K4 := (K2.trans k3.kp).new (o := .lst xs) hr2
      have er : upd H3 r (.lst xs) r = some (.lst xs) := upd_same
      have nr := hb3.ne hr2
      generalize upd H3 r (.lst xs) = H4 at *
      refine ⟨_, rfl, b, _, 4, rfl, hb4, by omega, by decide, by decide, fun H5 e k5 hb5 e0 e1 => ?_⟩
      obtain ⟨v, hv, ev⟩ := at_any (xs := xs) e0 (by omega)
      exact ⟨r, _, _, _, rfl, rfl, SqL.of ((k5 r nr).trans er), ev, q _ _ (hx v hv) (K4.trans k5.kp) (hb5.more (by omega))⟩
    walk_at "nx"
    refine cut_if (fun bb H3 => Kp [] H2 H3 ∧ bb = (decide (kd = 2) && !x.gone.isEmpty)) (fun Q' q' => ?_) ?_
    · refine ⟨_, rfl, rfl, _, rfl, ?_⟩
      by_cases h2 : kd = 2
      · rw [decide_eq_true (by rw [h2])]
        refine iteT ⟨_, rfl, x.m, _, rfl, y2.get6, by decide, fun l0 hl0 => ⟨x.n, l0, _, rfl, rfl, SqL.of ((upd_ne (ne_of_none y2.ln hl0)).trans y2.ln), SqL.of upd_same, _, rfl, q' _ _ ⟨Kp.refl.new hl0, ?_⟩⟩⟩
        rw [decide_eq_true h2, Bool.true_and]
        cases x.gone <;> rfl
      · rw [decide_eq_false (fun c => h2 (by injection c))]
        exact iteF (q' _ _ ⟨Kp.refl, by rw [decide_eq_false h2]; rfl⟩)
    rintro bb H3 ⟨k3, rfl⟩
    have y3 := y2.kp0 k3
    have hb3 := hb2.kp k3 (by simp)
    have el3 := k3 _ _ el2 (by simp)
    have K3 := K2.trans (k3.mono (S' := [b]) (by simp))
    have hgl : x.gone.length ≤ 1000 := by have := y.gc; omega
    cases hc : (decide (kd = 2) && !x.gone.isEmpty) with
    | true =>
      rw [Bool.and_eq_true] at hc
      have hne : x.gone ≠ [] := fun e => by rw [e] at hc; simp at hc
      have hpos : 0 < x.gone.length := List.length_pos_iff.mpr hne
      have nbn : b ≠ x.n := fun e => nb (by rw [e]; exact x.fb _ x.n_)
      refine iteT ⟨_, rfl, x.m, _, rfl, y3.get6, _, rfl, _, rfl, x.m, _, rfl, y3.get6, x.n, _, rfl, .inl (SqL.of y3.ln), b, _, _, rfl, hb3, by omega, (by rw [List.length_map]; omega), (Int.lt_of_le_of_lt (by rw [List.length_map]; omega : _ ≤ (1000 : Int)) (by decide)), fun H4 d k4 hb4 d0 d1 => ?_⟩
      obtain ⟨v, hv, ev⟩ := at_any (xs := x.gone.map V.ref) d0 d1
      obtain ⟨w, hw, rfl⟩ := List.mem_map.mp hv
      obtain ⟨r, hr2, e⟩ := y.go w hw
      exact ⟨x.n, _, _, _, rfl, rfl, SqL.of ((k4 _ nbn.symm).trans y3.ln), ev, q _ _ (.inr (.inr ⟨r, hr2, by rw [e]⟩)) (K3.trans k4.kp) (hb4.more (by omega))⟩
    | false =>
      refine iteF ?_
      walk_at "nx"
      refine ⟨_, rfl, by decide, fun l0 hl0 => ⟨l, l0, _, rfl, rfl, SqL.of ((upd_ne (ne_of_none el3 hl0)).trans el3), SqL.of upd_same, _, rfl, ?_⟩⟩
      have k4 := (Kp.refl (S := []) (H := H3)).new (o := .lst []) hl0
      have hb4 := hb3.new (o := .lst []) hl0
      generalize upd H3 l0 (.lst []) = H4 at *
      have el4 := k4 _ _ el3 (by simp)
      have K4 := K3.trans (k4.mono (S' := [b]) (by simp))
      refine iteB (fun _ => ?_) (fun he => ?_)
      · exact q _ _ (.inr (.inl ⟨7, rfl, by rw [e37]; decide⟩)) K4 (hb4.more (by omega))
      · have hpos : 0 < (allW x).length := by
          cases e : allW x with
          | nil => rw [show (stand x.ts).flatMap x.giv = allW x from rfl, e] at he; cases he
          | cons a t => simp
        refine ⟨_, rfl, _, rfl, _, rfl, l, _, rfl, .inl (SqL.of el4), b, _, _, rfl, hb4, by omega, (by rw [List.length_map]; show (0 : Int) < ((allW x).length : Nat); omega), (Int.lt_of_le_of_lt (by rw [List.length_map]; show (((allW x).length : Nat) : Int) ≤ 1000; omega : _ ≤ (1000 : Int)) (by decide)), fun H5 d k5 hb5 d0 d1 => ?_⟩
        obtain ⟨v, hv, ev⟩ := at_any d0 d1
        obtain ⟨r, hr2, rfl⟩ := List.mem_map.mp hv
        exact ⟨l, _, _, _, rfl, rfl, SqL.of ((k5 l nl).trans el4), ev, q _ _ (.inr (.inr ⟨r, x.sub.subset (mem_all.mp hr2), rfl⟩)) (K4.trans k5.kp) (hb5.more (by omega))⟩
end

end Lw
namespace Lw
open PySem PySem.Spec L2 FG
open PyProof.Rows hiding St
/-! ### one deed, done by both -/
theorem HW.room {K : PySem.W.Frag} {H : Hp} {s : HSt} {x : WSt} (y : HW K H s x) {r : Rm} (hr : r ∈ x.here) : ∃ p ∈ s.here, p.f = r.f ∧ p.o = r.o ∧ p.cells = r.cells := by
  obtain ⟨h1, h2⟩ := mem_whr.mp hr
  obtain ⟨q, hq, e1, e2, e3⟩ := rho_mem y.er h1
  refine ⟨q, mem_here hq (decide_eq_true ?_), e1, e2, e3⟩
  rw [← y.et, e1]; exact h2
/-- a room of the house is touched by the law's way -/
theorem HW.touch {K : PySem.W.Frag} {H H1 : Hp} {s : HSt} {x : WSt} {r : Rm} {q : Addr} {Y : Rm → Hp → Prop} {E : XK} (y : HW K H s x) (hr : r ∈ x.here) (h : ∀ p ∈ s.here, p.f = r.f → p.o = r.o → p.cells = r.cells → ∀ H', Kp [] H1 H' → Y p H') : RoomOut K H1 s q r.f r.o Y E := by
  obtain ⟨p, hp, e1, e2, e3⟩ := y.room hr
  have hp1 := (here_sub s).subset hp
  have hpu : s.up p = true := (List.mem_filter.mp hp).2
  refine ⟨fun z hz f1 f2 _ H' k => ?_, fun z hz f1 f2 fu => ?_, fun no => absurd ⟨e1, e2⟩ (no p hp1)⟩
  · have := same_room y.ho.pl hz hp1 (f1.trans e1.symm) (f2.trans e2.symm)
    subst this
    exact h z hp e1 e2 e3 H' k
  · have := same_room y.ho.pl hz hp1 (f1.trans e1.symm) (f2.trans e2.symm)
    subst this
    rw [fu] at hpu; cases hpu
theorem vok_no {H H' : Hp} {rs : List Rm} {v : V} (vk : VOk H rs v) (k : Kp [] H H') {q : Addr} (e : v = .ref q) {a b : Nat} (h : H' q = some (.tup [.int (a : Int), .int (b : Int)])) (no : ∀ r ∈ rs, ¬ (r.f = a ∧ r.o = b)) : False := by
  rcases vk with e0 | ⟨z, e0⟩ | ⟨r2, hr2, q2, e0, eq2⟩
  · rw [e0] at e; cases e
  · rw [e0] at e; cases e
  · rw [e0] at e
    injection e with e
    rw [e] at eq2
    rw [k _ _ eq2 (by simp)] at h
    injection h with h
    injection h with h
    injection h with h81 h82
    injection h82 with h82 _
    injection h81 with h81
    injection h82 with h82
    exact no r2 hr2 ⟨by omega, by omega⟩
theorem Grow.from {H H6 : Hp} {s s' : HSt} {x x' : WSt} {b : Addr} {n : Int} (g : Grow H6 s x s' x') (k : Kp [b] H H6) (bx : BoxAt H6 b n) : Grow H s x s' x' := by
  refine ⟨g.1, g.2.1, fun a ha => ?_, g.2.2.2.1, g.2.2.2.2⟩
  rcases g.2.2.1 a ha with z | z | z
  · exact .inl z
  · exact .inr (.inl z)
  · refine .inr (.inr ?_)
    cases e : H a with
    | none => rfl
    | some o =>
      by_cases hab : a = b
      · obtain ⟨_, _, _, eb, _⟩ := bx
        rw [hab, eb] at z; cases z
      · rw [k a o e (by simpa using hab)] at z; cases z
theorem Grow.refl {H : Hp} {s : HSt} {x : WSt} : Grow H s x s x := ⟨rfl, rfl, fun a ha => ha.elim .inl fun z => .inr (.inl z), Nat.le_succ _, rfl, fun r hr => ⟨r, hr, rfl⟩⟩
section
variable {P : Program} {w : World} {K : PySem.W.Frag} {mg : Str → Option Value} {base : Heap}
theorem ok_wdeed (T : Tx K mg) {fd : FuncData} (F : Fun K "_law_deed" "_law_deed" s__law_deed (He.ga K "_law_deed") fd) (c__law_take : Cal P w K mg base 1 "_law_take" spTake) (c__law_standing : Cal P w K mg base 1 "_law_standing" spWStanding) (c__law_all_rooms : Cal P w K mg base 2 "_law_all_rooms" spWAll)
    (c__law_begun : Cal P w K mg base 1 "_law_begun" spWBegun) (c__law_used : Cal P w K mg base 1 "_law_used" spWUsed) (c__law_given : Cal P w K mg base 2 "_law_given" spWGiven) (c__law_ended : Cal P w K mg base 2 "_law_ended" spWEnded) (c__law_value : Cal P w K mg base 3 "_law_value" spWValue)
    (m_begin : Met P w K mg base 5 (CH K) "begin" (spBegin (CH K))) (m_make : Met P w K mg base 5 (CH K) "make" (spMake K)) (m_finish : Met P w K mg base 5 (CH K) "finish" (spHFin K)) (m_put : Met P w K mg base 5 (CH K) "put" (spPut K)) :
    FnG P w K mg base 6 (He.ga K "_law_deed") fd ["_law_box_here", "_law_house", "_law_world_here"] (spWDeed K) := by
  refine FnG.of F sc__law_deed (fun vs H Q E h => ?_) (fun cdv A outer sh H vs Q E hr h => ?_)
  · obtain ⟨s, x, b, n, rfl, _⟩ := h; rfl
  · obtain ⟨s, x, b, n, rfl, hb, hn, hm, nbs, nbx, hl, q⟩ := h
    have wf := hm.ho.wf
    have wl := wf.len
    have ws := wf.small
    have hlx : x.rs.length ≤ 900 := by rw [hm.len]; omega
    have subS : ∀ a ∈ s.foot, a ∈ b :: (s.foot ++ x.foot) := fun a ha => by simp [ha]
    have subX : ∀ a ∈ x.foot, a ∈ b :: (s.foot ++ x.foot) := fun a ha => by simp [ha]
    have subA : ∀ a ∈ s.foot ++ x.foot, a ∈ b :: (s.foot ++ x.foot) := fun a ha => List.mem_cons_of_mem _ ha
    have nbA : b ∉ s.foot ++ x.foot := fun z => by rcases List.mem_append.mp z with z | z; exact nbs z; exact nbx z
    have sl := stand_len x.ts
    have etl : x.ts.length = s.ts.length := by rw [hm.et]
    have al := allW_len x
    refine ⟨_, pss_cons (ps_set (i := 3) sc__law_deed.nd rfl (by first | exact Or.inl rfl | exact Or.inr rfl) (gc c__law_take (hr.mono (by decide)) takes0 (pa_cons (pv 0) (pa_cons (pe_int) (pa_nil)))))
      (pss_cons (ps_set (i := 4) sc__law_deed.nd rfl (by first | exact Or.inl rfl | exact Or.inr rfl) (gc c__law_standing (hr.mono (by decide)) takes0 (pa_cons (pv 2) (pa_nil))))
      (pss_cons (ps_set (i := 5) sc__law_deed.nd rfl (by first | exact Or.inl rfl | exact Or.inr rfl) (pe_ix (kixL K) (pv 4) (pe_ix (kixL K) (pe_lst (pa_cons (pe_op op_sub (pe_callB (klen K) (by rfl) T.z_len PySem.boot_len (pa_cons (pv 4) (pa_nil))) (pe_int)) (pa_cons (gc c__law_take (hr.mono (by decide)) takes0 (pa_cons (pv 0) (pa_cons (pe_callB (klen K) (by rfl) T.z_len PySem.boot_len (pa_cons (pv 4) (pa_nil))) (pa_nil)))) (pa_nil)))) (gc c__law_take (hr.mono (by decide)) takes0 (pa_cons (pv 0) (pa_cons (pe_int) (pa_nil)))) (fun _ _ => rfl)) (fun _ _ => rfl)))
      (pss_cons (ps_set (i := 6) sc__law_deed.nd rfl (by first | exact Or.inl rfl | exact Or.inr rfl) (gc c__law_all_rooms (hr.mono (by decide)) takes0 (pa_cons (pv 2) (pa_nil))))
      (pss_cons (ps_if (PW.pt (pw_and (pt_cmpR op_lt (pv 3) (pe_int) (by first | exact nomark _ | rfl)) (pw_and1 (pt_cmpR op_lt (pe_callB (klen K) (by rfl) T.z_len PySem.boot_len (pa_cons (pe_dget hr.hu (pv 2) (pe_str) (fun _ _ => rfl)) (pa_nil))) (pe_int) (by first | exact nomark _ | rfl))))) (pss_one (ps_ret (pe_cmpR op_eq (gm m_begin (hr.mono (by decide)) takes0 (pv 1) (pa_cons (pv 5) (pa_nil))) (gc c__law_begun (hr.mono (by decide)) takes0 (pa_cons (pv 2) (pa_cons (pv 5) (pa_nil)))) (by first | exact nomark _ | rfl)))) (pss_nil))
      (pss_cons (ps_if (PW.pt (pw_or (pt_cmpR op_lt (pv 3) (pe_int) (by first | exact nomark _ | rfl)) (pw_or1 (pt_cmpR (keqE K hr.r.units) (pv 6) (pe_lst (pa_nil)) (by first | exact nomark _ | rfl))))) (pss_cons (ps_set (i := 7) sc__law_deed.nd rfl (by first | exact Or.inl rfl | exact Or.inr rfl) (pe_op op_add (pe_int) (gc c__law_take (hr.mono (by decide)) takes0 (pa_cons (pv 0) (pa_cons (pe_ix (kixL K) (pe_lst (pa_cons (pe_int) (pa_cons (pe_int) (pa_nil)))) (gc c__law_take (hr.mono (by decide)) takes0 (pa_cons (pv 0) (pa_cons (pe_int) (pa_nil)))) (fun _ _ => rfl)) (pa_nil))))))
      (pss_cons (ps_if (pt_cmpR op_gt (pv 7) (pe_op op_sub (pe_dget hr.hu (pv 2) (pe_str) (fun _ _ => rfl)) (gc c__law_used (hr.mono (by decide)) takes0 (pa_cons (pv 2) (pa_nil)))) (by first | exact nomark _ | rfl)) (pss_one (ps_ret (pe_bl))) (pss_nil))
      (pss_one (ps_ret (pe_cmpR (keqD K hr.r.units) (gm m_make (hr.mono (by decide)) takes0 (pv 1) (pa_cons (pv 5) (pa_cons (pv 7) (pa_nil)))) (gc c__law_given (hr.mono (by decide)) takes0 (pa_cons (pv 2) (pa_cons (pv 5) (pa_cons (pv 7) (pa_nil))))) (by first | exact nomark _ | rfl)))))) (pss_nil))
      (pss_cons (ps_if (PW.pt (pw_and (pt_cmpR op_eq (pv 3) (pe_int) (by first | exact nomark _ | rfl)) (pw_and (pt_cmpR op_gt (pv 5) (pe_int) (by first | exact nomark _ | rfl)) (pw_and1 (pt_cmpR op_eq (gc c__law_take (hr.mono (by decide)) takes0 (pa_cons (pv 0) (pa_cons (pe_int) (pa_nil)))) (pe_int) (by first | exact nomark _ | rfl)))))) (pss_one (ps_ret (pe_cmpR (keqD K hr.r.units) (gm m_finish (hr.mono (by decide)) takes0 (pv 1) (pa_cons (pv 5) (pa_nil))) (gc c__law_ended (hr.mono (by decide)) takes0 (pa_cons (pv 2) (pa_cons (pv 5) (pa_nil)))) (by first | exact nomark _ | rfl)))) (pss_nil))
      (pss_cons (ps_set (i := 8) sc__law_deed.nd rfl (by first | exact Or.inl rfl | exact Or.inr rfl) (pe_ix (kixL K) (pv 6) (gc c__law_take (hr.mono (by decide)) takes0 (pa_cons (pv 0) (pa_cons (pe_callB (klen K) (by rfl) T.z_len PySem.boot_len (pa_cons (pv 6) (pa_nil))) (pa_nil)))) (fun _ _ => rfl)))
      (pss_cons (ps_set (i := 9) sc__law_deed.nd rfl (by first | exact Or.inl rfl | exact Or.inr rfl) (gc c__law_take (hr.mono (by decide)) takes0 (pa_cons (pv 0) (pa_cons (pe_callB (klen K) (by rfl) T.z_len PySem.boot_len (pa_cons (pe_dget hr.hu (pe_dget hr.hu (pv 2) (pe_str) (fun _ _ => rfl)) (pv 8) (fun _ _ => rfl)) (pa_nil))) (pa_nil)))))
      (pss_cons (ps_set (i := 10) sc__law_deed.nd rfl (by first | exact Or.inl rfl | exact Or.inr rfl) (gc c__law_value (hr.mono (by decide)) takes0 (pa_cons (pv 0) (pa_cons (pv 2) (pa_nil)))))
      (pss_cons (ps_asg (pv 10) (pg_sub (pe_dget hr.hu (pe_dget hr.hu (pv 2) (pe_str) (fun _ _ => rfl)) (pv 8) (fun _ _ => rfl)) (pv 9) set_list))
      (pss_one (ps_ret (pe_cmpR op_isN (gm m_put (hr.mono (by decide)) takes0 (pv 1) (pa_cons (pv 8) (pa_cons (pv 9) (pa_cons (pv 10) (pa_nil))))) (pe_non) (by first | exact nomark _ | rfl)))))))))))))), ?_⟩
    refine ⟨_, rfl, b, n, 12, rfl, hb, by omega, by decide, by decide, fun H1 kd k1 b1 _ _ => ?_⟩
    have m1 := hm.kpb k1.kp hb nbs nbx
    refine ⟨_, rfl, x, rfl, m1.wa, fun l H2 hl2 k2 el2 => ?_⟩
    have b2 := b1.kp k2 (by simp)
    have m2 := m1.kp0 k2
    have nlb : l ≠ b := b1.ne hl2
    have pos : 0 < (stand x.ts).length := by
      have h0 : (0 : Nat) ∈ stand x.ts := mem_stand.mpr (by rw [hm.et]; exact hm.gr)
      exact List.length_pos_of_mem h0
    -- the frame
    refine ⟨_, rfl, _, rfl, l, _, rfl, .inl (SqL.of el2), _, _, rfl, rfl, _, rfl, _, rfl, l, _, rfl, .inl (SqL.of el2), b, _, _, rfl, b2, by omega, (by rw [List.length_map]; omega), (Int.lt_of_le_of_lt (by rw [List.length_map]; omega : _ ≤ (1000 : Int)) (by decide)), fun H3 d k3 b3 d0 d1 => ⟨(by show 2 ≤ sizeLine; decide), fun r hr3 => ?_⟩⟩
    rw [List.length_map] at d1
    have kr := (Kp.refl (S := []) (H := H3)).new (o := .lst [.int ((((stand x.ts).map nint).length : Nat) - 1), .int d]) hr3
    have er : upd H3 r (.lst [.int ((((stand x.ts).map nint).length : Nat) - 1), .int d]) r = some (.lst [.int ((((stand x.ts).map nint).length : Nat) - 1), .int d]) := upd_same
    have nrb := b3.ne hr3
    have m4 := (m2.kpb k3.kp b2 nbs nbx).kp0 kr
    have b4 := b3.kp kr (by simp)
    have el4 := kr _ _ ((k3 l nlb).trans el2) (by simp)
    generalize upd H3 r (.lst [.int ((((stand x.ts).map nint).length : Nat) - 1), .int d]) = H4 at *
    refine ⟨_, rfl, b, _, 2, rfl, b4, by omega, by decide, by decide, fun H5 e k5 b5 e0 e1 => ?_⟩
    obtain ⟨i, ei, i0, i1⟩ : ∃ i : Int, atI [V.int ((((stand x.ts).map nint).length : Nat) - 1), .int d] e = some (.int i) ∧ 0 ≤ i ∧ i < (stand x.ts).length := by
      have : e = 0 ∨ e = 1 := by omega
      rcases this with rfl | rfl
      · exact ⟨_, rfl, by rw [List.length_map]; omega, by rw [List.length_map]; omega⟩
      · exact ⟨d, rfl, d0, d1⟩
    obtain ⟨v, hv, ev⟩ := at_any (xs := (stand x.ts).map nint) i0 (by rw [List.length_map]; exact i1)
    obtain ⟨f, hf, rfl⟩ := List.mem_map.mp hv
    have hupx := mem_stand.mp hf
    have hup : s.ts[f]? = some none := by rw [← hm.et]; exact hupx
    have hft : f < s.ts.length := (List.getElem?_eq_some_iff.mp hup).1
    have hfx : f < x.hs.length := by rw [hm.eh]; omega
    have el5 := (k5 l nlb).trans el4
    refine ⟨r, _, _, _, rfl, rfl, SqL.of ((k5 r nrb).trans er), ei, l, _, _, _, rfl, rfl, SqL.of el5, ev, ?_⟩
    have m5 := m4.kpb k5.kp b4 nbs nbx
    refine ⟨_, rfl, x, rfl, m5.wa, by omega, fun la H6 hla k6 ela => ?_⟩
    have m6 := m5.kp0 k6
    have b6 := b5.kp k6 (by simp)
    have nlab : la ≠ b := b5.ne hla
    have K6 : Kp [b] H H6 := (((((k1.kp.trans (k2.mono (by simp))).trans k3.kp).trans (kr.mono (by simp))).trans k5.kp).trans (k6.mono (by simp)))
    have b6' : BoxAt H6 b (n + 3) := b6.more (by omega)
    clear k1 b1 m1 k2 b2 m2 hl2 el2 k3 b3 kr er hr3 m4 b4 el4 k5 b5 ei el5 ev m5 hla k6 b6
    obtain ⟨dx, fs, e6, ff, _⟩ := m6.ho.ob
    have K6' : Kp (b :: (s.foot ++ x.foot)) H H6 := K6.mono (by simp)
    walk_at "nx"
    refine cut_if (fun bb H7 => H6 = H7 ∧ (bb = true → x.ts.length < 12)) (fun Q' q' => ?_) ?_
    · refine ⟨_, rfl, _, _, rfl, rfl, _, rfl, iteB (fun _ => ?_) (fun _ => ?_)⟩
      · refine ⟨_, rfl, x.m, _, rfl, m6.wa.get2, x.b, _, rfl, .inl (SqL.of m6.wa.lt), _, _, rfl, rfl, _, rfl, q' _ _ ⟨rfl, fun z => ?_⟩⟩
        have := of_decide_eq_true z
        rw [List.length_map] at this; omega
      · exact q' _ _ ⟨rfl, fun z => by cases z⟩
    rintro bb H7 ⟨rfl, h12⟩
    refine iteB (fun hbb => ?_) (fun _ => ?_)
    · have h12' := h12 hbb
      refine ⟨_, rfl, s.p, dx, fs, rfl, e6, ff.no _ (by decide +kernel), _, rfl, s.p, s.h, s.t, s.hs, s.ts, f, rfl, m6.ho.fr, hup, by omega, fun H8 k8 fr8 => ?_⟩
      have s8 : ∀ a ∈ [s.h, s.t], a ∈ s.foot := fun a ha => footS s a (by simp only [List.mem_cons, List.not_mem_nil, or_false] at ha ⊢; rcases ha with z | z <;> simp [z])
      have wa8 := m6.wa.kp k8 (fun a ha => m6.dj a (s8 a ha)) (not_tup m6.ho.std s8)
      refine ⟨_, rfl, _, rfl, x, f, rfl, wa8, hfx, by rw [hm.eh]; omega, fun l2 H9 hl9 k9 wa9 fo9 => ⟨rfl, ?_⟩⟩
      obtain ⟨m9, k69, g9⟩ := m6.begin2 k8 fr8 k9 (fun a ha => x.fb a ha) wa9 fo9 hl9
      have ed : decide (nint s.hs.length = nint x.hs.length) = true := decide_eq_true (by rw [hm.eh])
      rw [ed]
      exact q H9 _ _ (K6'.trans (k69.mono subA)) m9 (g9.from K6 b6') ((b6'.kp k69 nbA).more (by omega))
    walk_at "nx"
    refine cut_if (fun bb H7 => Kp [] H6 H7 ∧ (bb = false → allW x ≠ [])) (fun Q' q' => ?_) ?_
    · refine ⟨_, rfl, _, _, rfl, rfl, _, rfl, iteB (fun _ => ?_) (fun _ => ?_)⟩
      · exact q' _ _ ⟨Kp.refl, fun z => by cases z⟩
      · refine ⟨_, rfl, by decide, fun l0 hl0 => ⟨la, l0, _, rfl, rfl, SqL.of ((upd_ne (ne_of_none ela hl0)).trans ela), SqL.of upd_same, _, rfl, q' _ _ ⟨Kp.refl.new hl0, fun z e => ?_⟩⟩⟩
        have e' : (stand x.ts).flatMap x.giv = [] := e
        rw [e'] at z; cases z
    rintro b2 H7 ⟨k7, hne⟩
    have m7 := m6.kp0 k7
    have b7 := b6'.kp k7 (by simp)
    have K7 := K6.trans (k7.mono (S' := [b]) (by simp))
    have ela7 := k7 _ _ ela (by simp)
    have e7 := k7 _ _ e6 (by simp)
    clear K6 K6' b6' m6 ela e6
    refine iteB (fun _ => ?_) (fun hb2 => ?_)
    · -- a room
      refine ⟨_, rfl, (by show 2 ≤ sizeLine; decide), fun r1 hr1 => ?_⟩
      have k8 := (Kp.refl (S := []) (H := H7)).new (o := .lst [.int 3, .int 6]) hr1
      have er1 : upd H7 r1 (.lst [.int 3, .int 6]) r1 = some (.lst [.int 3, .int 6]) := upd_same
      have nr1 := b7.ne hr1
      have m8 := m7.kp0 k8
      have b8 := b7.kp k8 (by simp)
      have K8 := K7.trans (k8.mono (S' := [b]) (by simp))
      generalize upd H7 r1 (.lst [.int 3, .int 6]) = H8 at *
      refine ⟨_, rfl, b, _, 2, rfl, b8, by omega, by decide, by decide, fun H9 d2 k9 b9 g0 g1 => ?_⟩
      have m9 := m8.kpb k9.kp b8 nbs nbx
      have K9 := K8.trans k9.kp
      obtain ⟨mx, emx, mx1, mx6⟩ : ∃ mx : Int, atI [V.int 3, .int 6] d2 = some (.int mx) ∧ 1 ≤ mx ∧ mx ≤ 6 := by
        have : d2 = 0 ∨ d2 = 1 := by omega
        rcases this with rfl | rfl
        · exact ⟨3, rfl, by decide, by decide⟩
        · exact ⟨6, rfl, by decide, by decide⟩
      refine ⟨r1, _, _, _, rfl, rfl, SqL.of ((k9 r1 nr1).trans er1), emx, b, _, mx, rfl, b9, by omega, by omega, (Int.lt_of_le_of_lt mx6 (by decide)), fun H10 d3 k10 b10 h0 h1 => ⟨_, _, rfl, rfl, ?_⟩⟩
      have m10 := m9.kpb k10.kp b9 nbs nbx
      have K10 := K9.trans k10.kp
      obtain ⟨k, hk, hk1, hk6⟩ : ∃ k : Nat, 1 + d3 = (k : Int) ∧ 1 ≤ k ∧ k ≤ 6 := ⟨(1 + d3).toNat, by omega, by omega, by omega⟩
      walk_at "nx"
      rw [hk]
      refine ⟨_, rfl, _, rfl, x.m, _, rfl, m10.wa.get0, _, rfl, x, rfl, m10.wa.d, x.here, m10.wa.lc, m10.wa.cl, (by have := x.sub.length_le; omega), fun H11 k11 => ⟨_, _, rfl, rfl, _, _, rfl, rfl, _, rfl, ?_⟩⟩
      have m11 := m10.kp0 k11
      have b11 := b10.kp k11 (by simp)
      have K11 := K10.trans (k11.mono (S' := [b]) (by simp))
      refine iteB (fun _ => ?_) (fun hle => ?_)
      · exact q H11 s x (K11.mono (by simp)) m11 Grow.refl (b11.more (by omega))
      · have hle2 : s.used + k ≤ s.most := by
          have h1 := of_decide_eq_false hle
          have h2 := m11.eUsed
          have h3 := m11.lim
          rw [h2, h3] at h1
          omega
        obtain ⟨dx', fs', e11, ff', _⟩ := m11.ho.ob
        refine ⟨_, rfl, s.p, dx', fs', rfl, e11, ff'.no _ (by decide +kernel), _, rfl, _, rfl, s, f, k, rfl, m11.ho, hup, hk1, hk6, by omega, fun _ a c w H12 ha hc hw k12 ho12 => ?_, fun no => absurd no (by omega)⟩
        have s12 : ∀ a' ∈ [s.p, s.gd, s.fd, s.sd, s.hd], a' ∈ s.foot := fun a' ha' => footS s a' (by simp only [List.mem_cons, List.not_mem_nil, or_false] at ha' ⊢; rcases ha' with z | z | z | z | z <;> simp [z])
        have wa12 := m11.wa.kp k12 (fun a' ha' => m11.dj a' (s12 a' ha')) (not_tup m11.ho.std s12)
        refine ⟨_, rfl, _, rfl, _, rfl, x, f, k, rfl, wa12, hfx, hupx, hk6, by omega, m11.fresh f, fun c2 w2 H13 hc2 hw2 k13 wa13 fo13 ew13 => ?_⟩
        obtain ⟨m13, k1113, g13⟩ := m11.make2 hup ha hc k12 ho12 k13 (fun a' ha' => ha') wa13 fo13 hc2 rfl
        have ew12 : H12 w = some (.tup [.int (f : Int), .int (s.fill f : Int)]) := ho12.wl _ (List.mem_append_right _ (List.mem_singleton.mpr rfl))
        have ew : H13 w = some (.tup [.int (f : Int), .int (s.fill f : Int)]) := m13.ho.wl _ (List.mem_append_right _ (List.mem_singleton.mpr rfl))
        have ef := m11.eFill f
        rw [ef] at ew13
        refine ⟨wayD f (s.fill f), wayD f (s.fill f), dp_way ew, dp_way ew13, shaped_way _ _, shaped_way _ _, ?_⟩
        rw [eqv_self (shaped_way _ _)]
        exact q H13 _ _ ((K11.mono (by simp)).trans (k1113.mono subA)) m13 (g13.from K11 b11) ((b11.kp k1113 nbA).more (by omega))
    have hne' := hne hb2
    walk_at "nx"
    refine cut_if (fun bb H8 => Kp [b] H7 H8 ∧ BoxAt H8 b (n + 4) ∧ HW K H8 s x ∧ (bb = true → 0 < f)) (fun Q' q' => ?_) ?_
    · refine ⟨_, rfl, rfl, _, rfl, iteB (fun _ => ?_) (fun _ => q' _ _ ⟨Kp.refl, b7.more (by omega), m7, fun z => by cases z⟩)⟩
      refine ⟨_, rfl, _, _, rfl, rfl, _, rfl, iteB (fun hf0 => ?_) (fun _ => q' _ _ ⟨Kp.refl, b7.more (by omega), m7, fun z => by cases z⟩)⟩
      refine ⟨_, rfl, b, _, 2, rfl, b7, by omega, by decide, by decide, fun H8 d2 k8 b8 _ _ => ⟨rfl, _, rfl, q' _ _ ⟨k8.kp, b8.more (by omega), m7.kpb k8.kp b7 nbs nbx, fun _ => ?_⟩⟩⟩
      have := of_decide_eq_true hf0
      omega
    rintro b3 H8 ⟨k8, b8, m8, hf0⟩
    have K8 := K7.trans k8
    have ela8 := k8 _ _ ela7 (by simpa using nlab)
    obtain ⟨dx', fs', e8, ff', _⟩ := m8.ho.ob
    refine iteB (fun h3 => ?_) (fun _ => ?_)
    · -- a frame ends
      have hf1 := hf0 h3
      refine ⟨_, rfl, s.p, dx', fs', rfl, e8, ff'.no _ (by decide +kernel), _, rfl, s, f, rfl, m8.ho, hup, hf1, fun l5 H9 hl5 k9 ho9 el5 => ?_⟩
      have s9 : ∀ a ∈ [s.t, s.hd], a ∈ s.foot := fun a ha => footS s a (by simp only [List.mem_cons, List.not_mem_nil, or_false] at ha ⊢; rcases ha with z | z <;> simp [z])
      have wa9 := m8.wa.kp k9 (fun a ha => m8.dj a (s9 a ha)) (not_tup m8.ho.std s9)
      refine ⟨_, rfl, _, rfl, x, f, rfl, wa9, by omega, fun l6 H10 gone hl6 k10 wa10 el6 => ?_⟩
      obtain ⟨m10, k810, g10⟩ := m8.finish2 hf1 hft k9 ho9 k10 (fun a ha => x.fb a ha) wa10
      have el5' : H10 l5 = some (.lst ((fin s.hs s.ts f).map nint)) := k10 _ _ el5 fun z => by
        obtain ⟨o, e, _⟩ := m8.wa.std l5 (x.fb _ z)
        rw [hl5] at e; cases e
      rw [hm.eh, hm.et] at el6
      refine ⟨.list ((fin s.hs s.ts f).map pnint), .list ((fin s.hs s.ts f).map pnint), .lst (SqL.of el5') (dp_nint K _ _), .lst (SqL.of el6) (dp_nint K _ _), shaped_nints _, shaped_nints _, ?_⟩
      rw [eqv_self (shaped_nints _)]
      exact q H10 _ _ ((K8.mono (by simp)).trans (k810.mono subA)) m10 (g10.from K8 b8) ((b8.kp k810 nbA).more (by omega))
    -- a value is put
    walk_at "nx"
    have hpos : 0 < (allW x).length := List.length_pos_iff.mpr hne'
    have ela8' : H8 la = some (.lst ((allW x).map fun r => V.ref r.w)) := ela8
    refine ⟨_, rfl, _, rfl, _, rfl, la, _, rfl, .inl (SqL.of ela8'), b, _, _, rfl, b8, by omega, (by rw [List.length_map]; omega), (Int.lt_of_le_of_lt (by rw [List.length_map]; omega : _ ≤ (1000 : Int)) (by decide)), fun H9 d2 k9 b9 g0 g1 => ?_⟩
    obtain ⟨v, hv, ev⟩ := at_any g0 g1
    obtain ⟨r, hr2, rfl⟩ := List.mem_map.mp hv
    have hrh := mem_all.mp hr2
    have hrx := x.sub.subset hrh
    have m9 := m8.kpb k9.kp b8 nbs nbx
    refine ⟨la, _, _, _, rfl, rfl, SqL.of ((k9 la nlab).trans ela8'), ev, ?_⟩
    have K9 := K8.trans k9.kp
    have sz := hm.sz hrx
    refine ⟨_, rfl, _, rfl, x.m, _, rfl, m9.wa.get5, _, rfl, x.c, _, rfl, m9.wa.getR hrh (m9.wa.wl r hrx), r.c, _, rfl, .inl (SqL.of (m9.wa.cl r hrh)), b, _, _, rfl, b9, by omega, (by omega), (Int.lt_of_le_of_lt (by omega : ((r.cells.length : Nat) : Int) ≤ 6) (by decide)), fun H10 d3 k10 b10 h0 h1 => ?_⟩
    have m10 := m9.kpb k10.kp b9 nbs nbx
    have K10 := K9.trans k10.kp
    refine ⟨_, rfl, _, rfl, x, b, _, rfl, b10, by omega, m10.wa, nbx, by omega, fun H11 u hu k11 b11 => ?_⟩
    have m11 := m10.kpb k11 b10 nbs nbx
    have K11 := K10.trans k11
    obtain ⟨k, rfl⟩ : ∃ k : Nat, d3 = k := ⟨d3.toNat, by omega⟩
    have hkl : k < r.cells.length := by omega
    refine ⟨_, rfl, _, rfl, x.m, _, rfl, m11.wa.get5, _, rfl, x.c, _, rfl, m11.wa.getR hrh (m11.wa.wl r hrx), _, rfl, r.c, _, _, k, rfl, rfl, m11.wa.cl r hrh, ixN_n hkl, ?_⟩
    obtain ⟨H12, eH12⟩ : ∃ H12, H12 = upd H11 r.c (.lst (r.cells.set k u)) := ⟨_, rfl⟩
    have k12 : Kp [r.c] H11 H12 := fun a o e n => by rw [eH12, upd_ne (by simpa using n)]; exact e
    have w12 : H12 r.c = some (.lst (r.cells.set k u)) := by rw [eH12, upd_same]
    walk_at "nx"
    rw [← eH12]
    have crx : r.c ∈ x.foot := x.fc r hrh
    have ho12 : HoAt (CH K) H12 s := m11.ho.kp k12 (fun a ha z => by rw [List.mem_singleton] at ha; rw [ha] at z; exact m11.dj _ z crx) (not_tup m11.wa.std fun a ha => by rw [List.mem_singleton] at ha; rw [ha]; exact crx)
    have ew12 : H12 r.w = some (.tup [.int (r.f : Int), .int (r.o : Int)]) := k12 _ _ (m11.wa.wl r hrx) fun z => by
      rw [List.mem_singleton] at z
      have := m11.wa.cl r hrh
      rw [← z, m11.wa.wl r hrx] at this; cases this
    have vk11 := m11.vok hu
    have vk12 : VOk H12 s.rs u := vk11.kp fun a xs e => k12 _ _ e fun z => by
      rw [List.mem_singleton] at z
      rw [z, m11.wa.cl r hrh] at e; cases e
    obtain ⟨dx2, fs2, e12, ff2, _⟩ := ho12.ob
    refine ⟨_, rfl, s.p, dx2, fs2, rfl, e12, ff2.no _ (by decide +kernel), _, rfl, _, rfl, _, rfl, s, r.w, r.f, r.o, (k : Int), u, rfl, ho12, ew12, .inl vk12, m11.touch hrh fun p hp e1 e2 e3 H13 k13 => ⟨fun _ => ⟨fun vk13 H14 k14 ho14 ec14 => ⟨rfl, ?_⟩, fun q' eq' a' b' h8 no => ?_⟩, fun no => absurd ⟨by omega, by rw [e3]; omega⟩ no⟩⟩
    · rw [Int.toNat_natCast] at ho14
      have k1213 : Kp [r.c] H11 H13 := k12.trans (k13.mono (by simp))
      obtain ⟨m14, k1114, g14⟩ := m11.put2 hrh hp e1 e2 hu k1213 (k13 _ _ w12 (by simp)) k14 ho14
      rw [decide_eq_true rfl]
      exact q H14 _ _ ((K11.mono (by simp)).trans (k1114.mono subA)) m14 (g14.from K11 b11) ((b11.kp k1114 nbA).more (by omega))
    · exact absurd no (fun no => vok_no vk12 k13 eq' h8 no)
end

end Lw
namespace Lw
open PySem PySem.Spec L2 FG
open PyProof.Rows hiding St
/-! GDin: None or a number asked of a dict whose keys are tuples. -/



section
variable {prog : Program} {w : World} {A : Around} {E : Value → Shared → Prop} {s : Shared} {d : Addr} {key : Value} {xs : List (List L2.Key × Addr × Value)}
def NoTup (v : Value) : Prop := v = .none ∨ ∃ i t, v = .int i t
theorem NoTup.byV (n : NoTup key) : carriedByValue key = true := by
  rcases n with rfl | ⟨i, t, rfl⟩ <;> rfl
theorem notup_hash {Q : Int → Shared → Prop} (n : NoTup key) (hu : A.units + 1 < cLine) (h : ∀ z s', s'.heap = s.heap → (∃ t, s' = { s with toks := t }) → Q z s') : wpAny (model prog w) A (PySem.pyHash key) Q E s := by
  rcases n with rfl | ⟨i, t, rfl⟩
  · exact PySem.pyHash_key (.none) .none A s Q .none (by simp only [NestedKey.depth]; omega) (h _ _ rfl ⟨_, rfl⟩)
  · exact PySem.pyHash_key (.num i) _ A s Q (.int i t) (by simp only [NestedKey.depth]; omega) (h _ _ rfl ⟨_, rfl⟩)
theorem notup_eq {b : Addr} {k : List L2.Key} {Q : Bool → Shared → Prop} (n : NoTup key) (hu : A.units < cLine) (hk : IsTupleKey (mixKind prog w) s.heap k b) (h : Q false s) : wpAny (model prog w) A (PySem.eqBool (.ref b) key) Q E s := by
  obtain ⟨o, its, m, h1, h2, h3, _⟩ := hk
  have ht : s.heap.IsTuple b its := ⟨_, h1, h2, _, h3⟩
  rcases n with rfl | ⟨i, t, rfl⟩
  · exact SeqAt.EqAt.tuple_none ht hu _ _ _ _ h
  · exact SeqAt.EqAt.tuple_int i t ht hu _ _ _ _ h
theorem quiet_mix {stored : List Value} {Q : Bool → Shared → Prop} (n : NoTup key) (hst : ∀ v ∈ stored, ∃ k b, v = .ref b ∧ IsTupleKey (mixKind prog w) s.heap k b) (h : Q false s) : wpAny (model prog w) A (tableMayTell key stored) Q E s := by
  unfold tableMayTell
  split
  · exact wpAny_pure h
  · refine wpAny_bind ?_
    have e : eqIsQuiet 8 key = pure true := by rcases n with rfl | ⟨i, t, rfl⟩ <;> rfl
    rw [e]
    refine wpAny_pure ?_
    simp only [Bool.not_true, Bool.false_eq_true, if_false]
    refine wpAny_bind ?_
    refine wpAny_forIn_list _ (fun rest r s' => s' = s ∧ r = (none, ()) ∧ ∀ v ∈ rest, ∃ k b, v = .ref b ∧ IsTupleKey (mixKind prog w) s.heap k b) _ ?_ ?_ _ _ ⟨rfl, rfl, hst⟩
    · rintro x rest r s' ⟨rfl, rfl, hr⟩
      obtain ⟨k', b, rfl, hb⟩ := hr x List.mem_cons_self
      refine wpAny_bind (wpAny_eqIsQuiet_tuple hb ?_)
      simp only [Bool.not_true, Bool.false_eq_true, if_false]
      exact wpAny_pure ⟨rfl, rfl, fun v hv => hr v (List.mem_cons_of_mem _ hv)⟩
    · rintro r s' ⟨rfl, rfl, _⟩
      exact wpAny_pure h
theorem notup_find {o : Obj} {es : Array DictEntry} {ep : Nat} {h0 : Int} {Q : Option Nat → Shared → Prop} (n : NoTup key) (hu : A.units < cLine) (ho : s.heap.get? d = some o) (hd : o.data = .dict es ep)
    (his : ∀ e ∈ es, ∃ k b, e.key = .ref b ∧ IsTupleKey (mixKind prog w) s.heap k b) (h : Q none s) : wpAny (model prog w) A (dictFind d key h0) Q E s := by
  have hst : ∀ v ∈ (placesWithHash es.size (fun i => es[i]?.map (·.hash)) h0).filterMap (fun i => es[i]?.map (·.key)), ∃ k b, v = .ref b ∧ IsTupleKey (mixKind prog w) s.heap k b := by
    intro v hv
    obtain ⟨i, _, hi⟩ := List.mem_filterMap.mp hv
    cases hei : es[i]? with
    | none => rw [hei] at hi; cases hi
    | some e =>
      rw [hei] at hi
      obtain rfl : e.key = v := by simpa using hi
      exact his e (Array.mem_of_getElem? hei)
  have walk : wpAny (model prog w) A (dictWalkPlain d key h0 es (placesWithHash es.size (fun i => es[i]?.map (·.hash)) h0)) Q E s := by
    unfold dictWalkPlain
    refine wpAny_bind ?_
    refine wpAny_forIn_list _ (fun rest b s' => s' = s ∧ b = (none, ())) _ ?_ ?_ _ _ ⟨rfl, rfl⟩
    · rintro i rest b s' ⟨rfl, rfl⟩
      cases hei : es[i]? with
      | none => exact wpAny_pure ⟨rfl, rfl⟩
      | some e =>
        dsimp only
        split
        · obtain ⟨k, b, ek, hk⟩ := his e (Array.mem_of_getElem? hei)
          rw [ek]
          refine wpAny_bind (wpAny_dictEpoch ho hd (wpAny_bind (notup_eq n hu hk (wpAny_bind (wpAny_dictEpoch ho hd ?_)))))
          simp only [bne_self_eq_false, Bool.false_eq_true, if_false]
          first
            | exact wpAny_bind (wpAny_rule (wpAny_pure ⟨rfl, rfl⟩))
            | exact wpAny_bind (wpAny_bind (wpAny_rule (wpAny_pure ⟨rfl, rfl⟩)))
        · exact wpAny_pure ⟨rfl, rfl⟩
    · rintro b s' ⟨rfl, rfl⟩
      exact wpAny_pure h
  unfold dictFind
  try with_reducible refine wpAny_holding ?_
  refine wpAny_bind (wpAny_dictEntries ho hd ?_)
  have n0 := n
  rcases n with rfl | ⟨i0, t0, rfl⟩ <;> dsimp only
  · have n := n0
    by_cases hc : ((Value.none :: (placesWithHash es.size (fun i => es[i]?.map (·.hash)) h0).filterMap (fun i => es[i]?.map (·.key))).all carriedByValue) = true
    · rw [if_pos hc]
      exact walk
    · rw [if_neg hc]
      try dsimp only
      by_cases hone : (((placesWithHash es.size (fun i => es[i]?.map (·.hash)) h0).filterMap (fun i => es[i]?.map (·.key))) == [Value.none]) = true <;>
      (first | rw [if_pos hone] | rw [if_neg hone]) <;> (first | refine wpAny_bind (wpAny_pure ?_) | refine wpAny_bind (quiet_mix n hst ?_)) <;> (
        rw [if_neg (by simp)]
        refine wpAny_bind ?_
        refine wpAny_forIn_list _ (fun rest b s' => s' = s ∧ b = (none, none)) _ ?_ ?_ _ _ ⟨rfl, rfl⟩
        · rintro i rest b s' ⟨rfl, rfl⟩
          cases hei : es[i]? with
          | none => exact wpAny_pure ⟨rfl, rfl⟩
          | some e =>
            dsimp only
            split
            · obtain ⟨k, b, ek, hk⟩ := his e (Array.mem_of_getElem? hei)
              rw [ek]
              refine wpAny_bind (wpAny_dictEpoch ho hd (wpAny_bind (notup_eq n hu hk (wpAny_bind (wpAny_dictEpoch ho hd ?_)))))
              simp only [bne_self_eq_false, Bool.false_eq_true, if_false]
              refine wpAny_bind (wpAny_rule ?_)
              first
                | exact wpAny_pure ⟨rfl, rfl⟩
                | (simp only [Bool.false_and, Bool.false_eq_true, if_false]; exact wpAny_pure ⟨rfl, rfl⟩)
                | exact wpAny_bind (wpAny_pure (wpAny_pure ⟨rfl, rfl⟩))
            · exact wpAny_pure ⟨rfl, rfl⟩
        · rintro b s' ⟨rfl, rfl⟩
          exact wpAny_pure h)
  · have n := n0
    by_cases hc : ((Value.int i0 t0 :: (placesWithHash es.size (fun i => es[i]?.map (·.hash)) h0).filterMap (fun i => es[i]?.map (·.key))).all carriedByValue) = true
    · rw [if_pos hc]
      exact walk
    · rw [if_neg hc]
      try dsimp only
      by_cases hone : (((placesWithHash es.size (fun i => es[i]?.map (·.hash)) h0).filterMap (fun i => es[i]?.map (·.key))) == [Value.int i0 t0]) = true <;>
      (first | rw [if_pos hone] | rw [if_neg hone]) <;> (first | refine wpAny_bind (wpAny_pure ?_) | refine wpAny_bind (quiet_mix n hst ?_)) <;> (
        rw [if_neg (by simp)]
        refine wpAny_bind ?_
        refine wpAny_forIn_list _ (fun rest b s' => s' = s ∧ b = (none, none)) _ ?_ ?_ _ _ ⟨rfl, rfl⟩
        · rintro i rest b s' ⟨rfl, rfl⟩
          cases hei : es[i]? with
          | none => exact wpAny_pure ⟨rfl, rfl⟩
          | some e =>
            dsimp only
            split
            · obtain ⟨k, b, ek, hk⟩ := his e (Array.mem_of_getElem? hei)
              rw [ek]
              refine wpAny_bind (wpAny_dictEpoch ho hd (wpAny_bind (notup_eq n hu hk (wpAny_bind (wpAny_dictEpoch ho hd ?_)))))
              simp only [bne_self_eq_false, Bool.false_eq_true, if_false]
              refine wpAny_bind (wpAny_rule ?_)
              first
                | exact wpAny_pure ⟨rfl, rfl⟩
                | (simp only [Bool.false_and, Bool.false_eq_true, if_false]; exact wpAny_pure ⟨rfl, rfl⟩)
                | exact wpAny_bind (wpAny_pure (wpAny_pure ⟨rfl, rfl⟩))
            · exact wpAny_pure ⟨rfl, rfl⟩
        · rintro b s' ⟨rfl, rfl⟩
          exact wpAny_pure h)
theorem notup_get {Q : Option Value → Shared → Prop} (n : NoTup key) (hu : A.units + 1 < cLine) (hm : s.heap.DictOfH (tupleKind (mixKind prog w)) d xs)
    (h : ∀ t, Q none { s with toks := t }) : wpAny (model prog w) A (dictGet d key) Q E s := by
  obtain ⟨o, es, ep, ho, _, hd, he, his, hn⟩ := hm
  have hi : ∀ e ∈ es, ∃ k b, e.key = .ref b ∧ IsTupleKey (mixKind prog w) s.heap k b := by
    intro e hin
    have : e ∈ xs.map (entryOfKey (tupleKind (mixKind prog w))) := he ▸ Array.mem_toList_iff.mpr hin
    obtain ⟨x, hx, rfl⟩ := List.mem_map.mp this
    exact ⟨x.1, x.2.1, rfl, his x hx⟩
  unfold dictGet
  try with_reducible refine wpAny_holding ?_
  refine wpAny_bind (notup_hash n hu fun z s' eh ⟨t, et⟩ => ?_)
  subst et
  exact wpAny_bind (notup_find (s := { s with toks := t }) n (by omega) ho hd hi (wpAny_pure (h t)))
theorem notup_in {Q : Value → Shared → Prop} (n : NoTup key) (hu : A.units + 65 < cLine) (hd : (d == sysModules) = false) (hm : s.heap.DictOfH (tupleKind (mixKind prog w)) d xs)
    (h : ∀ t, Q (.bool false) { s with toks := t }) : wpAny (model prog w) A (compareOp .In key (.ref d)) Q E s := by
  show wpAny _ _ (do return .bool (← contains (.ref d) key)) Q E s
  refine wpAny_bind ?_
  unfold contains
  try with_reducible refine wpAny_holding ?_
  refine wpAny_bind (wpAny_specialOf hm.typeIs slot_dict_contains.lookup ?_)
  show wpAny _ _ (if (some (Value.builtin "dict.__contains__") == some Value.none) = true then _ else _) _ E s
  rw [if_neg (by rw [beq_builtin_none]; exact Bool.false_ne_true)]
  refine wpAny_bind (wpAny_callSpecialUnlessNone?_slot (name := Str.ofString "__contains__") hm.typeIs slot_dict_contains
    (wpAny_call_entry slot_dict_contains hm.typeIs entry_dict_contains ?_ (args_dict_contains _ _)))
  show wpAny _ _ (dictGet d key >>= _) _ _ s
  refine wpAny_bind (notup_get n (by simp only [Around.in1_units]; omega) hm fun t => ?_)
  show wpAny _ _ (Builtin.Dict.pendingKey? d key >>= _) _ _ _
  exact wpAny_bind (wpAny_pendingKey_other hd (wpAny_pure ⟨_, rfl, wpAny_truthy_bool (wpAny_pure (h t))⟩))
end
/-- what a dict holds at a key that may be none of its kind -/
def DGetA (H : Hp) (a : Addr) (y : V) (o : Option V) : Prop := DGet H a y o ∨ ∃ kvs, Rd H a (.dT kvs) ∧ (y = .non ∨ ∃ z, y = .int z) ∧ o = none
def tDInA (ty td : TE) : TE := fun σ H Q => ty σ H fun y H1 => td σ H1 fun x H2 => ∃ a o, x = .ref a ∧ DGetA H2 a y o ∧ Q (.bl o.isSome) H2
section
variable {X : Cx} {o i : Expr} {td ty : TE}
theorem pc_dinA (hu : X.A.units + 65 < cLine) (hi : PE X i ty) (ho : PE X o td) : PC X .In i o (tDInA ty td) := by
  refine ⟨fun pins s σ H Q I h => ?_⟩
  refine thn (hi.run pins s σ H _ I h) fun iv s1 ⟨y, H1, I1, ry, q1⟩ => thn (ho.run pins s1 σ H1 _ I1 q1) fun u s2 ⟨x, H2, I2, rx, a, ov, ex, g, q2⟩ => ?_
  subst ex
  obtain rfl : u = Value.ref a := rx
  rcases g with g | ⟨kvs, e, ey, eo⟩
  · exact d_in (by omega) I2 g ry fun s3 I3 => ⟨.bl ov.isSome, H2, I3, rfl, q2⟩
  · subst eo
    obtain ⟨_, hd, xs, _, dd⟩ := dt_rd I2.hok e
    have n : NoTup iv := by
      rcases ey with rfl | ⟨z, rfl⟩
      · exact .inl ry
      · obtain ⟨t, e⟩ := (show ∃ t, iv = Value.int z t from ry)
        exact .inr ⟨z, t, e⟩
    exact notup_in n hu hd dd fun t => ⟨.bl false, H2, I2.tok t, rfl, q2⟩
end
theorem kinD {X : Cx} (K : PySem.W.Frag) (hu : X.A.units + 65 < cLine) (hK : X.K = K := by rfl) : OpR X (compareOp .In) (rInD K) := by subst hK; exact op_inD hu

end Lw
namespace Lw
open PySem PySem.Spec L2 FG
open PyProof.Rows hiding St
/-! ### texts of letters; one sign, n times -/
abbrev sl (z : Str) : List Nat := z.cps.toList
theorem op_mulS {X : Cx} : OpR X (binaryOp .Mult) (fun x y H Q => ∃ (z : Str) (c : Nat) (n : Int), x = .str z ∧ y = .int n ∧ sl z = [c] ∧ 0 ≤ n ∧ n ≤ 100000 ∧ Q (.str ⟨(List.replicate n.toNat c).toArray⟩) H) := by
  intro pins s σ H x y v u Q I rx ry h
  obtain ⟨z, c, n, rfl, rfl, hz, h0, h1, q⟩ := h
  obtain ⟨t, rfl⟩ := rx
  obtain ⟨t', rfl⟩ := ry
  obtain rfl : z = ⟨#[c]⟩ := TL.ext_tl hz
  have e : Txt.mul ⟨#[c]⟩ n = ⟨(List.replicate n.toNat c).toArray⟩ := TL.ext_tl (PyProof.Rows.mul_one_list c n)
  refine PySem.SB.mul ⟨?_, ?_, ?_⟩ fun t'' k => ?_
  · rw [Bool.or_eq_false_iff]
    exact ⟨decide_eq_false (by omega), decide_eq_false (by omega)⟩
  · intro h2 _ h3
    have h4 : (1 : Int) ≤ (2 ^ 63 - 1) / n := by
      rw [Int.le_ediv_iff_mul_le (by omega)]
      omega
    have h5 : (((⟨#[c]⟩ : Str).length : Nat) : Int) = 1 := rfl
    rw [h5] at h3
    omega
  · intro _ _
    show PySem.Builtin.Str.tooLong (1 * n.toNat) = false
    exact decide_eq_false (by show ¬ (1 * n.toNat > sizeLine); have : (100000 : Nat) ≤ sizeLine := by decide
                              omega)
  · rw [e]
    exact ⟨.str _, H, I.tok _, ⟨_, rfl⟩, q⟩
def letS (z : Str) : Prop := ∀ c ∈ sl z, letter c = true
theorem len_sl (z : Str) : z.length = (sl z).length := TL.len_tl z
theorem let_app {x y : Str} (h : letS x) (k : letS y) : letS (x ++ y) := fun c hc => by
  have e : sl (x ++ y) = sl x ++ sl y := TL.tl_append x y
  rw [e] at hc
  rcases List.mem_append.mp hc with z | z
  · exact h c z
  · exact k c z
theorem app_len (x y : Str) : (x ++ y).length = x.length + y.length := by
  have e : sl (x ++ y) = sl x ++ sl y := TL.tl_append x y
  rw [len_sl, len_sl, len_sl, e, List.length_append]
theorem let_sign {x : Str} {c : Nat} (h : letS x) (hc : c ∈ sl x) : letS ⟨#[c]⟩ := fun d hd => by
  have e : d = c := by simpa using hd
  rw [e]; exact h c hc
theorem let_cut {x : Str} (h : letS x) (a b : Option Int) : letS (cutS x a b) := fun c hc => h c (List.mem_of_mem_drop (List.mem_of_mem_take hc))
theorem let_rep {x : Str} {c : Nat} (h : letS x) (hc : c ∈ sl x) (n : Nat) : letS ⟨(List.replicate n c).toArray⟩ := fun d hd => by
  have e : d ∈ List.replicate n c := by simpa using hd
  rw [(List.mem_replicate.mp e).2]; exact h c hc
theorem let_join {s : Str} {ys : List Str} (hs : letS s) (h : ∀ y ∈ ys, letS y) : letS (Txt.join s ys) := by
  have key : ∀ {S : List Nat}, (∀ c ∈ S, letter c = true) → ∀ ps : List (List Nat), (∀ p ∈ ps, ∀ c ∈ p, letter c = true) → ∀ c ∈ TL.joinL S ps, letter c = true := by
    intro S hS ps
    induction ps with
    | nil => intro _ c hc; cases hc
    | cons p r ih =>
      cases r with
      | nil => intro h c hc; exact h p (by simp) c hc
      | cons q r =>
        intro h c hc
        have hc2 : c ∈ p ++ (S ++ TL.joinL S (q :: r)) := hc
        rcases List.mem_append.mp hc2 with z | z
        · exact h p (by simp) c z
        · rcases List.mem_append.mp z with z | z
          · exact hS c z
          · exact ih (fun x hx => h x (List.mem_cons_of_mem _ hx)) c z
  have e : sl (Txt.join s ys) = TL.joinL (sl s) (ys.map sl) := by
    show TL.tl (Txt.join s ys) = _
    rw [TL.join_eq, TL.tl_join]
  intro c hc
  rw [e] at hc
  refine key hs _ (fun p hp c hc => ?_) c hc
  obtain ⟨y, hy, rfl⟩ := List.mem_map.mp hp
  exact h y hy c hc
theorem join_sl (ys : List Str) : (Txt.join "" ys).length = (ys.map (·.length)).sum := by
  have e : sl (Txt.join "" ys) = TL.joinL (sl "") (ys.map sl) := by
    show TL.tl (Txt.join "" ys) = _
    rw [TL.join_eq, TL.tl_join]
  have e0 : sl ("" : Str) = [] := rfl
  rw [len_sl, e, e0]
  clear e
  induction ys with
  | nil => rfl
  | cons y r ih =>
    cases r with
    | nil => show (sl y).length = _; rw [List.map_cons, List.sum_cons, ← len_sl]; simp
    | cons q r =>
      show (sl y ++ ([] ++ TL.joinL [] ((q :: r).map sl))).length = _
      rw [List.length_append, List.nil_append, ih, List.map_cons (a := y), List.sum_cons, ← len_sl]
theorem cut_to (z : Str) (n : Nat) : sl (cutS z none (some (n : Int))) = (sl z).take n := by
  show (((sl z).drop 0).take (HT.sIx z.length z.length (some (n : Int)) - 0)) = _
  rw [HT.sIx_nat, List.drop_zero, Nat.sub_zero, len_sl]
  rcases Nat.le_total n (sl z).length with h | h
  · rw [Nat.min_eq_left h]
  · rw [Nat.min_eq_right h, List.take_of_length_le h, List.take_of_length_le (Nat.le_refl _)]
theorem cut_from (z : Str) (n : Nat) : sl (cutS z (some (n : Int)) none) = (sl z).drop n := by
  show (((sl z).drop (HT.sIx z.length 0 (some (n : Int)))).take (z.length - HT.sIx z.length 0 (some (n : Int)))) = _
  rw [HT.sIx_nat, len_sl]
  rcases Nat.le_total n (sl z).length with h | h
  · rw [Nat.min_eq_left h]; exact List.take_of_length_le (by rw [List.length_drop]; exact Nat.le_refl _)
  · rw [Nat.min_eq_right h, List.drop_of_length_le h, List.drop_of_length_le (Nat.le_refl _)]; simp
theorem name_of {z : Str} (h : letS z) (h1 : 1 ≤ z.length) (h6 : z.length ≤ 6) : nameS z = true := by
  unfold nameS
  rw [Bool.and_eq_true]
  exact ⟨decide_eq_true ⟨h1, h6⟩, List.all_eq_true.mpr h⟩
theorem name_let {z : Str} (h : nameS z = true) : letS z ∧ 1 ≤ z.length ∧ z.length ≤ 6 := by
  unfold nameS at h
  rw [Bool.and_eq_true] at h
  have := of_decide_eq_true h.1
  exact ⟨List.all_eq_true.mp h.2, this.1, this.2⟩
def abc : Str := "abcdefghijklmnopqrstuvwxyz"
theorem abc_let : letS abc := fun c hc => by
  have := mem_letters c
  rw [← this]; exact decide_eq_true hc
theorem abc_len : abc.length = 26 := by decide +kernel
theorem str_at {z : Str} {i : Int} (h0 : 0 ≤ i) (h1 : i < z.length) : ∃ c, c ∈ sl z ∧ atI z.cps.toList i = some c := by
  obtain ⟨j, rfl⟩ : ∃ j : Nat, i = j := ⟨i.toNat, by omega⟩
  have hj : j < (sl z).length := by rw [← len_sl]; omega
  exact ⟨(sl z)[j], List.getElem_mem hj, atI_nat (List.getElem?_eq_getElem hj)⟩
theorem Kp.fr1 {H H1 : Hp} {b a : Addr} {n : Int} (k : Kp [b] H H1) (bx : BoxAt H1 b n) (e : H1 a = none) : H a = none := by
  cases h : H a with
  | none => rfl
  | some o =>
    have nb : a ≠ b := bx.ne e
    have := k a o h (by simpa using nb)
    rw [e] at this; cases this

end Lw
namespace Lw
open PySem PySem.Spec L2 FG
open PyProof.Rows hiding St
/-! ### names, hands -/
def spWNames : Sp := fun vs H Q _ => ∃ (b : Addr) (n m : Int), vs = [.ref b, .int m] ∧ BoxAt H b n ∧ n < 10000000 ∧ 0 ≤ m ∧ m ≤ 40 ∧
  ∀ l H' (zs : List Str), H l = none → Kp [b] H H' → BoxAt H' b (n + 20) → H' l = some (.lst (zs.map V.str)) → (∀ z ∈ zs, nameS z = true) → zs.length ≤ m.toNat → Q (.ref l) H'
def words11 : List Str := ["in", "or", "end", "make", "frame", "ground", "none", "turns", "put", "hand", "room"]
theorem words_ok : ∀ z ∈ words11, nameS z = true := by
  have : words11.all nameS = true := by decide +kernel
  exact List.all_eq_true.mp this
section
variable {P : Program} {w : World} {K : PySem.W.Frag} {mg : Str → Option Value} {base : Heap}
/-- a loop that gathers texts -/
def Gat (p : Str → Prop) (S : List Addr) (H0 : Hp) (D : Addr) (i : Nat) (H : Hp) : Prop := Kp S H0 H ∧ ∃ zs : List Str, H D = some (.lst (zs.map V.str)) ∧ (∀ z ∈ zs, p z) ∧ zs.length = i
theorem Gat.zero {p : Str → Prop} {S : List Addr} {H : Hp} {D : Addr} (hD : H D = none) : Gat p S H D 0 (upd H D (.lst [])) :=
  ⟨fun b o eb _ => (upd_ne (ne_of_none eb hD)).trans eb, [], upd_same, fun _ z => (by cases z), rfl⟩
theorem Gat.more {p : Str → Prop} {S : List Addr} {H0 H : Hp} {D : Addr} {i : Nat} {z : Str} (hD : H0 D = none) (g : Gat p S H0 D i H) (hz : p z) : ∃ acc, H D = some (.lst acc) ∧ acc.length = i ∧ Gat p S H0 D (i + 1) (upd H D (.lst (acc ++ [.str z]))) := by
  obtain ⟨k, zs, e, h, l⟩ := g
  refine ⟨_, e, by rw [List.length_map]; exact l, fun b o eb hb => (upd_ne (ne_of_none eb hD)).trans (k b o eb hb), zs ++ [z], by rw [upd_same, List.map_append]; rfl, fun y hy => ?_, by rw [List.length_append, l]; rfl⟩
  rcases List.mem_append.mp hy with q | q
  · exact h y q
  · rw [List.mem_singleton] at q; rw [q]; exact hz
theorem ok_wnames (T : Tx K mg) {fd : FuncData} (F : Fun K "_law_names" "_law_names" s__law_names (He.ga K "_law_names") fd) (c__law_take : Cal P w K mg base 1 "_law_take" spTake) : FnG P w K mg base 2 (He.ga K "_law_names") fd ["_law_box_here", "_law_many"] spWNames := by
  refine FnG.of F sc__law_names (fun vs H Q E h => ?_) (fun cdv A outer s H vs Q E hr h => ?_)
  · obtain ⟨b, n, m, rfl, _⟩ := h; rfl
  · obtain ⟨b, n, m, rfl, hb, hn, m0, m40, q⟩ := h
    obtain ⟨m, rfl⟩ : ∃ k : Nat, m = (k : Int) := ⟨m.toNat, by omega⟩
    refine ⟨_, pss_cons (ps_set (i := 2) sc__law_names.nd rfl (by first | exact Or.inl rfl | exact Or.inr rfl) (pe_str))
      (pss_cons (ps_set (i := 3) sc__law_names.nd rfl (by first | exact Or.inl rfl | exact Or.inr rfl) (gc c__law_take (hr.mono (by decide)) takes0 (pa_cons (pv 0) (pa_cons (pe_int) (pa_nil)))))
      (pss_cons (ps_set (i := 4) sc__law_names.nd rfl (by first | exact Or.inl rfl | exact Or.inr rfl) (gc c__law_take (hr.mono (by decide)) takes0 (pa_cons (pv 0) (pa_cons (pe_int) (pa_nil)))))
      (pss_cons (ps_set (i := 5) sc__law_names.nd rfl (by first | exact Or.inl rfl | exact Or.inr rfl) (pe_ix (kixL K) (pe_lst (pa_cons (pe_int) (pa_cons (pe_int) (pa_cons (pe_int) (pa_cons (pe_int) (pa_cons (pe_int) (pa_cons (pe_int) (pa_nil)))))))) (gc c__law_take (hr.mono (by decide)) takes0 (pa_cons (pv 0) (pa_cons (pe_int) (pa_nil)))) (fun _ _ => rfl)))
      (pss_cons (ps_if (pt_cmpR op_eq (pv 3) (pe_int) (by first | exact nomark _ | rfl)) (pss_cons (ps_set (i := 6) sc__law_names.nd rfl (by first | exact Or.inl rfl | exact Or.inr rfl) (pe_lst (pa_cons (pe_str) (pa_cons (pe_str) (pa_cons (pe_str) (pa_cons (pe_str) (pa_cons (pe_str) (pa_cons (pe_str) (pa_cons (pe_str) (pa_cons (pe_str) (pa_cons (pe_str) (pa_cons (pe_str) (pa_cons (pe_str) (pa_nil))))))))))))))
      (pss_one (ps_ret (pe_lc (own := [("_law_k", 7)]) (g := gName 7) (tt := tYes) rfl sc__law_names.nd (pi_range1 rfl T.z_range (pa_cons (pv 1) (pa_nil))) (blkOk_by (own := [("_law_k", 7)]) (N := ["_law_box_here", "_law_many", "_law_letters", "_law_way", "_law_first", "_law_step", "_law_words", "_law_k", "_law_stem", "_law_at", "_law_whole"]) (sc := defScope s__law_names) (by decide +kernel)) (fun _ _ _ _ _ => pg_name (i := 7) sc__law_names.nd rfl (by first | exact Or.inl rfl | exact Or.inr rfl)) (fun _ _ _ _ _ => by exact pts_nil) (fun _ _ _ _ _ => by exact pe_ix (kixL K) (pv 6) (pe_op op_mod (pe_op op_add (pv 4) (pe_op op_mul (pe_op op_mod (pv 5) (pe_int)) (pv 7))) (pe_int)) (fun _ _ => rfl)))))) (pss_nil))
      (pss_cons (ps_set (i := 8) sc__law_names.nd rfl (by first | exact Or.inl rfl | exact Or.inr rfl) (pe_join (pe_str) (pe_lc (own := [("_law_k", 7)]) (g := gName 7) (tt := tYes) rfl sc__law_names.nd (pi_range1 rfl T.z_range (pa_cons (gc c__law_take (hr.mono (by decide)) takes0 (pa_cons (pv 0) (pa_cons (pe_int) (pa_nil)))) (pa_nil))) (blkOk_by (own := [("_law_k", 7)]) (N := ["_law_box_here", "_law_many", "_law_letters", "_law_way", "_law_first", "_law_step", "_law_words", "_law_k", "_law_stem", "_law_at", "_law_whole"]) (sc := defScope s__law_names) (by decide +kernel)) (fun _ _ _ _ _ => pg_name (i := 7) sc__law_names.nd rfl (by first | exact Or.inl rfl | exact Or.inr rfl)) (fun _ _ _ _ _ => by exact pts_nil) (fun _ _ _ _ _ => by exact pe_ix ix_str (pv 2) (gc c__law_take (hr.mono (by decide)) takes0 (pa_cons (pv 0) (pa_cons (pe_int) (pa_nil)))) (fun _ _ => rfl)))))
      (pss_cons (ps_set (i := 9) sc__law_names.nd rfl (by first | exact Or.inl rfl | exact Or.inr rfl) (gc c__law_take (hr.mono (by decide)) takes0 (pa_cons (pv 0) (pa_cons (pe_op op_add (pe_callB call_len_str (by rfl) T.z_len PySem.boot_len (pa_cons (pv 8) (pa_nil))) (pe_int)) (pa_nil)))))
      (pss_cons (ps_if (PW.pt (pw_and (pt_cmpR op_eq (pv 3) (pe_int) (by first | exact nomark _ | rfl)) (pw_and1 (pt_cmpR op_lt (pv 1) (pe_int) (by first | exact nomark _ | rfl))))) (pss_cons (ps_set (i := 10) sc__law_names.nd rfl (by first | exact Or.inl rfl | exact Or.inr rfl) (pe_slice sl_str (pe_op op_add_str (pv 8) (pe_op op_mulS (pe_ix ix_str (pv 2) (pv 4) (fun _ _ => rfl)) (pe_int))) (po_none) (po_some (pe_int))))
      (pss_one (ps_ret (pe_lc (own := [("_law_k", 7)]) (g := gName 7) (tt := tYes) rfl sc__law_names.nd (pi_range1 rfl T.z_range (pa_cons (pv 1) (pa_nil))) (blkOk_by (own := [("_law_k", 7)]) (N := ["_law_box_here", "_law_many", "_law_letters", "_law_way", "_law_first", "_law_step", "_law_words", "_law_k", "_law_stem", "_law_at", "_law_whole"]) (sc := defScope s__law_names) (by decide +kernel)) (fun _ _ _ _ _ => pg_name (i := 7) sc__law_names.nd rfl (by first | exact Or.inl rfl | exact Or.inr rfl)) (fun _ _ _ _ _ => by exact pts_nil) (fun _ _ _ _ _ => by exact pe_slice sl_str (pv 10) (po_none) (po_some (pe_op op_add (pe_int) (pe_op op_mod (pe_op op_add (pv 4) (pv 7)) (pe_int))))))))) (pss_nil))
      (pss_one (ps_ret (pe_lc (own := [("_law_k", 7)]) (g := gName 7) (tt := tYes) rfl sc__law_names.nd (pi_range1 rfl T.z_range (pa_cons (pv 1) (pa_nil))) (blkOk_by (own := [("_law_k", 7)]) (N := ["_law_box_here", "_law_many", "_law_letters", "_law_way", "_law_first", "_law_step", "_law_words", "_law_k", "_law_stem", "_law_at", "_law_whole"]) (sc := defScope s__law_names) (by decide +kernel)) (fun _ _ _ _ _ => pg_name (i := 7) sc__law_names.nd rfl (by first | exact Or.inl rfl | exact Or.inr rfl)) (fun _ _ _ _ _ => by exact pts_nil) (fun _ _ _ _ _ => by exact pe_op op_add_str (pe_op op_add_str (pe_slice sl_str (pv 8) (po_none) (po_some (pv 9))) (pe_ix ix_str (pv 2) (pe_op op_mod (pe_op op_add (pv 4) (pe_op op_mul (pv 5) (pv 7))) (pe_int)) (fun _ _ => rfl))) (pe_slice sl_str (pv 8) (po_some (pv 9)) (po_none))))))))))))), ?_⟩
    refine ⟨_, rfl, b, n, 3, rfl, hb, by omega, by decide, by decide, fun H1 wy k1 b1 _ _ => ?_⟩
    refine ⟨_, rfl, b, _, 26, rfl, b1, by omega, by decide, by decide, fun H2 ft k2 b2 f0 f1 => ?_⟩
    refine ⟨(by show 6 ≤ sizeLine; decide), fun r hr2 => ?_⟩
    have K2 := k1.kp.trans k2.kp
    have nr := b2.ne hr2
    have b3 := b2.new (o := .lst [.int 1, .int 3, .int 5, .int 7, .int 9, .int 11]) hr2
    have K3 := K2.new (o := .lst [.int 1, .int 3, .int 5, .int 7, .int 9, .int 11]) hr2
    have er : upd H2 r (.lst [.int 1, .int 3, .int 5, .int 7, .int 9, .int 11]) r = some (.lst [.int 1, .int 3, .int 5, .int 7, .int 9, .int 11]) := upd_same
    generalize upd H2 r (.lst [.int 1, .int 3, .int 5, .int 7, .int 9, .int 11]) = H3 at *
    refine ⟨_, rfl, b, _, 6, rfl, b3, by omega, by decide, by decide, fun H4 d k4 b4 d0 d1 => ?_⟩
    obtain ⟨st, est, s0, s1⟩ : ∃ st : Int, atI [V.int 1, .int 3, .int 5, .int 7, .int 9, .int 11] d = some (.int st) ∧ 0 ≤ st ∧ st ≤ 11 := by
      have : d = 0 ∨ d = 1 ∨ d = 2 ∨ d = 3 ∨ d = 4 ∨ d = 5 := by omega
      rcases this with rfl | rfl | rfl | rfl | rfl | rfl <;> exact ⟨_, rfl, by decide, by decide⟩
    refine ⟨r, _, _, _, rfl, rfl, SqL.of ((k4 r nr).trans er), est, ?_⟩
    have K4 := K3.trans k4.kp
    refine ⟨_, rfl, rfl, _, rfl, iteB (fun _ => ?_) (fun _ => ?_)⟩
    · refine ⟨(by show 11 ≤ sizeLine; decide), fun wl hw => ?_⟩
      have ew : upd H4 wl (.lst (words11.map V.str)) wl = some (.lst (words11.map V.str)) := upd_same
      have K5 := K4.new (o := .lst (words11.map V.str)) hw
      have b5 := b4.new (o := .lst (words11.map V.str)) hw
      walk_at "nx"
      show tRet _ _ _ (upd H4 wl (.lst (words11.map V.str)))
      generalize upd H4 wl (.lst (words11.map V.str)) = H5 at *
      refine ⟨_, rfl, _, rfl, (by omega), (by omega), fun D hD => ?_⟩
      refine lc_range (lo := 0) (n := m) (fun i H' => Gat (fun z => nameS z = true) [] H5 D i H') (Gat.zero hD) ?_ ?_
      · rintro i H' hi g
        refine ⟨rfl, _, rfl, _, rfl, _, rfl, _, _, rfl, rfl, (by show (0 : Int) < 10; decide), _, rfl, _, _, rfl, rfl, .inl ⟨(by omega), (by omega)⟩, _, _, rfl, rfl, _, _, rfl, rfl, (by show (0 : Int) < 11; decide), ?_⟩
        obtain ⟨v, hv, ev⟩ := at_any (xs := words11.map V.str) (i := (ft + st % 10 * (0 + (i : Int))) % 11) (Int.emod_nonneg _ (by decide)) (Int.emod_lt_of_pos _ (by decide))
        obtain ⟨z, hz, rfl⟩ := List.mem_map.mp hv
        obtain ⟨acc, ea, la, ga⟩ := g.more (z := z) hD (words_ok z hz)
        exact ⟨wl, _, _, _, rfl, rfl, SqL.of (g.1 _ _ ew (by simp)), ev, acc, ea, (by rw [la]; exact sz_lt (by omega)), ga⟩
      · rintro H' ⟨k6, zs, ez, hz, lz⟩
        exact q D H' zs (K5.fr1 b5 hD) (K5.trans (k6.mono (by simp))) ((b5.kp k6 (by simp)).more (by omega)) ez hz (by omega)
    -- the stem
    walk_at "nx"
    refine ⟨⟨_, rfl⟩, _, rfl, b, _, 6, rfl, b4, by omega, by decide, by decide, fun H5 tk k5 b5 t0 t1 => ⟨_, rfl, (by omega), (by omega), fun D hD => ?_⟩⟩
    have K5 := K4.trans k5.kp
    obtain ⟨tn, rfl⟩ : ∃ k : Nat, tk = (k : Int) := ⟨tk.toNat, by omega⟩
    refine lc_range (lo := 0) (n := tn) (fun i H' => Gat (fun z => letS z ∧ z.length = 1) [b] H5 D i H' ∧ BoxAt H' b (n + 4 + i)) ⟨Gat.zero hD, b5.new hD |>.more (by omega)⟩ ?_ ?_
    · rintro i H' hi ⟨g, bi⟩
      refine ⟨rfl, _, rfl, _, rfl, b, _, 26, rfl, bi, by omega, by decide, by decide, fun H6 dd k6 b6 e0 e1 => ?_⟩
      obtain ⟨c, hc, ec⟩ := str_at (z := abc) e0 (by rw [abc_len]; exact e1)
      have nD : D ≠ b := b5.ne hD
      obtain ⟨acc, ea, la, ga⟩ := Gat.more (i := i) (z := ⟨#[c]⟩) hD (⟨g.1.trans k6.kp, by obtain ⟨zs, e, h⟩ := g.2; exact ⟨zs, (k6 D nD).trans e, h⟩⟩ : Gat (fun z => letS z ∧ z.length = 1) [b] H5 D i H6) ⟨let_sign abc_let hc, rfl⟩
      exact ⟨abc, _, c, rfl, rfl, sz_in (by rw [abc_len]; decide), ec, acc, ea, (by rw [la]; exact sz_lt (by omega)), ga, (b6.kp (S := [D]) (fun x o e n => (upd_ne (by simpa using n)).trans e) (by simpa using nD.symm)).more (by omega)⟩
    rintro H6 ⟨⟨k6, zs, ez, hz, lz⟩, b6⟩
    have stl : letS (Txt.join "" zs) := let_join (fun c hc => by cases hc) fun z h => (hz z h).1
    have sum1 : (zs.map (·.length)).sum = tn := by
      have : ∀ zs : List Str, (∀ z ∈ zs, z.length = 1) → (zs.map (·.length)).sum = zs.length := by
        intro zs
        induction zs with
        | nil => intro _; rfl
        | cons z r ih => intro h; rw [List.map_cons, List.sum_cons, h z (by simp), ih fun y hy => h y (by simp [hy]), List.length_cons]; omega
      rw [this zs fun z h => (hz z h).2, lz]
    have sll : (Txt.join "" zs).length = tn := by rw [join_sl, sum1]
    have K6 := K5.trans k6
    refine ⟨"", D, zs, rfl, rfl, .inl (SqL.of ez), (by rw [sum1, lz]; show tn + tn * 0 ≤ _; omega), ?_⟩
    generalize Txt.join "" zs = stem at stl sll
    clear ez hz lz sum1 zs
    walk_at "nx"
    refine ⟨_, rfl, _, rfl, stem, rfl, sz_in (by omega), _, _, rfl, rfl, b, _, _, rfl, b6, by omega, by omega, Int.lt_of_le_of_lt (by omega : _ ≤ (6 : Int)) (by decide), fun H7 at_ k7 b7 a0 a1 => ?_⟩
    have K7 := K6.trans k7.kp
    obtain ⟨an, rfl⟩ : ∃ k : Nat, at_ = (k : Int) := ⟨at_.toNat, by omega⟩
    have le1 : ∀ {c : Nat}, (⟨#[c]⟩ : Str).length = 1 := rfl
    walk_at "nx"
    refine cut_if (fun _ H8 => H7 = H8) (fun Q' q' => ?_) ?_
    · refine ⟨_, rfl, rfl, _, rfl, iteB (fun _ => ?_) (fun _ => q' _ _ rfl)⟩
      exact ⟨_, rfl, _, _, rfl, rfl, _, rfl, q' _ _ rfl⟩
    rintro bb H8 rfl
    refine iteB (fun _ => ?_) (fun _ => ?_)
    · obtain ⟨c, hc, ec⟩ := str_at (z := abc) f0 (by rw [abc_len]; exact f1)
      have lr : (⟨(List.replicate (Int.toNat 6) c).toArray⟩ : Str).length = 6 := by rw [len_sl]; show (List.replicate (Int.toNat 6) c).toArray.toList.length = 6; simp
      refine ⟨_, rfl, _, rfl, _, rfl, abc, _, c, rfl, rfl, sz_in (by rw [abc_len]; decide), ec, _, c, 6, rfl, rfl, rfl, by decide, by decide, _, _, rfl, rfl, sz_in (by rw [lr]; omega), ?_⟩
      have wlt : letS (cutS (stem ++ ⟨(List.replicate (Int.toNat 6) c).toArray⟩) none (some ((6 : Nat) : Int))) := let_cut (let_app stl (let_rep abc_let hc _)) _ _
      have wln : (cutS (stem ++ ⟨(List.replicate (Int.toNat 6) c).toArray⟩) none (some ((6 : Nat) : Int))).length = 6 := by
        rw [len_sl, cut_to, List.length_take, ← len_sl, app_len, lr]; omega
      refine ⟨_, rfl, _, rfl, sz_in (by rw [app_len, lr]; omega), ?_⟩
      walk_at "nx"
      obtain ⟨wh, ewh⟩ : ∃ wh, wh = cutS (stem ++ ⟨(List.replicate (Int.toNat 6) c).toArray⟩) none (some ((6 : Nat) : Int)) := ⟨_, rfl⟩
      rw [← ewh] at wlt wln
      refine ⟨_, rfl, _, rfl, (by omega), (by omega), fun D2 hD2 => ?_⟩
      refine lc_range (lo := 0) (n := m) (fun i H' => Gat (fun z => nameS z = true) [] H7 D2 i H') (Gat.zero hD2) ?_ ?_
      · rintro i H' hi g
        refine ⟨rfl, _, rfl, _, rfl, _, rfl, _, _, rfl, rfl, _, _, rfl, rfl, (by show (0 : Int) < 6; decide), _, _, rfl, rfl, _, rfl, wh, congrArg V.str ewh.symm, sz_in (by omega), ?_⟩
        obtain ⟨kk, ek, ek5⟩ : ∃ kk : Nat, (ft + (0 + (i : Int))) % 6 = kk ∧ kk ≤ 5 := ⟨((ft + (0 + (i : Int))) % 6).toNat, by omega, by omega⟩
        have e1 : 1 + (ft + (0 + (i : Int))) % 6 = ((1 + kk : Nat) : Int) := by rw [ek]; omega
        have eq := cut_to wh (1 + kk)
        have hz : nameS (cutS wh none (some ((1 + kk : Nat) : Int))) = true := by
          have hl : (cutS wh none (some ((1 + kk : Nat) : Int))).length = 1 + kk := by rw [len_sl, eq, List.length_take, ← len_sl, wln]; omega
          exact name_of (let_cut wlt _ _) (by omega) (by omega)
        obtain ⟨acc, ea, la, ga⟩ := g.more hD2 hz
        show ∃ acc, H' D2 = some (HO.lst acc) ∧ acc.length < sizeLine ∧ Gat _ [] H7 D2 (i + 1) (upd H' D2 (HO.lst (acc ++ [V.str (cutS wh none (some (1 + (ft + (0 + (i : Int))) % 6)))])))
        rw [e1]
        exact ⟨acc, ea, (by rw [la]; exact sz_lt (by omega)), ga⟩
      · rintro H' ⟨k8, zs, ez, hz, lz⟩
        exact q D2 H' zs (K7.fr1 b7 hD2) (K7.trans (k8.mono (by simp))) ((b7.kp k8 (by simp)).more (by omega)) ez hz (by omega)
    · refine ⟨_, rfl, _, rfl, (by omega), (by omega), fun D2 hD2 => ?_⟩
      refine lc_range (lo := 0) (n := m) (fun i H' => Gat (fun z => nameS z = true) [] H7 D2 i H') (Gat.zero hD2) ?_ ?_
      · rintro i H' hi g
        obtain ⟨c, hc, ec⟩ := str_at (z := abc) (i := (ft + st * (0 + (i : Int))) % 26) (Int.emod_nonneg _ (by decide)) (by rw [abc_len]; exact Int.emod_lt_of_pos _ (by decide))
        refine ⟨rfl, _, rfl, _, rfl, _, rfl, stem, rfl, sz_in (by omega), _, rfl, _, rfl, _, rfl, _, rfl, _, _, rfl, rfl, .inl ⟨(by omega), (by omega)⟩, _, _, rfl, rfl, _, _, rfl, rfl, (by show (0 : Int) < 26; decide), abc, _, c, rfl, rfl, sz_in (by rw [abc_len]; decide), ec, ?_⟩
        have l1 : (cutS stem none (some (an : Int))).length = min an tn := by rw [len_sl, cut_to, List.length_take, ← len_sl, sll]
        have l2 : (cutS stem (some (an : Int)) none).length = tn - an := by rw [len_sl, cut_from, List.length_drop, ← len_sl, sll]
        refine ⟨_, _, rfl, rfl, sz_in (by rw [l1, le1]; omega), _, rfl, _, rfl, _, rfl, stem, rfl, sz_in (by omega), _, _, rfl, rfl, sz_in (by rw [app_len, l1, l2, le1]; omega), ?_⟩
        have hz : nameS (cutS stem none (some (an : Int)) ++ ⟨#[c]⟩ ++ cutS stem (some (an : Int)) none) = true :=
          name_of (let_app (let_app (let_cut stl _ _) (let_sign abc_let hc)) (let_cut stl _ _)) (by rw [app_len, app_len, le1]; omega) (by rw [app_len, app_len, l1, l2, le1]; omega)
        obtain ⟨acc, ea, la, ga⟩ := g.more hD2 hz
        exact ⟨acc, ea, (by rw [la]; exact sz_lt (by omega)), ga⟩
      · rintro H' ⟨k8, zs, ez, hz, lz⟩
        exact q D2 H' zs (K7.fr1 b7 hD2) (K7.trans (k8.mono (by simp))) ((b7.kp k8 (by simp)).more (by omega)) ez hz (by omega)
end

end Lw
namespace Lw
open PySem PySem.Spec L2 FG
open PyProof.Rows hiding St
/-- hands: names, each with a value of the law -/
structure HdP (rs : List Rm) (kvs : List (L2.Key × V)) : Prop where
  nm : ∀ p ∈ kvs, ∃ z : Str, p.1 = .inr z ∧ nameS z = true
  vm : ∀ p ∈ kvs, ValM rs p.2
  nd : (kvs.map (·.1)).Nodup
  ln : kvs.length ≤ 41
theorem putK_mem {kvs : List (L2.Key × V)} {k : L2.Key} {v : V} {p : L2.Key × V} (h : p ∈ putK kvs k v) : p ∈ kvs ∨ p = (k, v) := by
  unfold putK at h
  split at h
  · obtain ⟨q, hq, e⟩ := List.mem_map.mp h
    split at e
    · rename_i hk
      exact .inr (by rw [← e, hk])
    · exact .inl (e ▸ hq)
  · rcases List.mem_append.mp h with z | z
    · exact .inl z
    · exact .inr (by simpa using z)
theorem putK_nd {kvs : List (L2.Key × V)} {k : L2.Key} {v : V} (h : (kvs.map (·.1)).Nodup) : ((putK kvs k v).map (·.1)).Nodup := by
  cases e : valV kvs k with
  | none => exact nd_putK v h e
  | some u =>
    have z : (kvs.any fun kv => decide (kv.1 = k)) = true := by rw [valV_any, e]; rfl
    unfold putK
    rw [if_pos z, List.map_map]
    have e2 : (List.map ((fun x : L2.Key × V => x.1) ∘ fun kv => if kv.1 = k then (kv.1, v) else kv) kvs) = kvs.map (·.1) := by
      refine List.map_congr_left fun kv _ => ?_
      show (if kv.1 = k then (kv.1, v) else kv).1 = kv.1
      split <;> rfl
    rw [e2]; exact h
theorem merge_ok {rs : List Rm} : ∀ {kvs acc : List (L2.Key × V)}, (∀ p ∈ acc ++ kvs, (∃ z : Str, p.1 = .inr z ∧ nameS z = true) ∧ ValM rs p.2) → (acc.map (·.1)).Nodup → acc.length + kvs.length ≤ 41 → HdP rs (mergeK acc kvs)
  | [], acc, h, n, l => ⟨fun p hp => (h p (List.mem_append_left _ hp)).1, fun p hp => (h p (List.mem_append_left _ hp)).2, n, by show acc.length ≤ 41; simpa using l⟩
  | p :: kvs, acc, h, n, l => by
    refine merge_ok (kvs := kvs) (acc := putK acc p.1 p.2) (fun q hq => ?_) (putK_nd n) ?_
    · rcases List.mem_append.mp hq with z | z
      · rcases putK_mem z with z | z
        · exact h q (List.mem_append_left _ z)
        · rw [z]; exact h p (by simp)
      · exact h q (by simp [z])
    · have := length_putK acc p.1 p.2
      rw [List.length_cons] at l; omega
theorem merge_len : ∀ (kvs acc : List (L2.Key × V)), (mergeK acc kvs).length ≤ acc.length + kvs.length
  | [], acc => Nat.le_refl _
  | p :: kvs, acc => by
    have h1 := merge_len kvs (putK acc p.1 p.2)
    have h2 := length_putK acc p.1 p.2
    show (mergeK (putK acc p.1 p.2) kvs).length ≤ _
    rw [List.length_cons]; omega
def spWHands : Sp := fun vs H Q _ => ∃ (x : WSt) (b : Addr) (n : Int), vs = [.ref b, .ref x.m] ∧ BoxAt H b n ∧ n < 1000000 ∧ WAt H x ∧ b ∉ x.foot ∧ x.rs.length ≤ 1000 ∧
  ∀ d H' kvs, H d = none → Kp [b] H H' → BoxAt H' b (n + 300) → H' d = some (.dK kvs) → HdP x.rs kvs → kvs.length ≤ 40 → Q (.ref d) H'
section
variable {P : Program} {w : World} {K : PySem.W.Frag} {mg : Str → Option Value} {base : Heap}
theorem ok_whands (T : Tx K mg) {fd : FuncData} (F : Fun K "_law_hands" "_law_hands" s__law_hands (He.ga K "_law_hands") fd) (c__law_take : Cal P w K mg base 1 "_law_take" spTake) (c__law_names : Cal P w K mg base 2 "_law_names" spWNames) (c__law_value : Cal P w K mg base 3 "_law_value" spWValue) : FnG P w K mg base 4 (He.ga K "_law_hands") fd ["_law_box_here", "_law_world_here"] spWHands := by
  refine FnG.of F sc__law_hands (fun vs H Q E h => ?_) (fun cdv A outer s H vs Q E hr h => ?_)
  · obtain ⟨x, b, n, rfl, _⟩ := h; rfl
  · obtain ⟨x, b, n, rfl, hb, hn, y, nb, hl, q⟩ := h
    have nbS : ∀ a ∈ [b], a ∉ x.foot := fun a ha => by rw [List.mem_singleton] at ha; rw [ha]; exact nb
    refine ⟨_, pss_cons (ps_set (i := 2) sc__law_hands.nd rfl (by first | exact Or.inl rfl | exact Or.inr rfl) (gc c__law_names (hr.mono (by decide)) takes0 (pa_cons (pv 0) (pa_cons (gc c__law_take (hr.mono (by decide)) takes0 (pa_cons (pv 0) (pa_cons (pe_int) (pa_nil)))) (pa_nil)))))
      (pss_cons (ps_if (pt_cmpR op_eq (gc c__law_take (hr.mono (by decide)) takes0 (pa_cons (pv 0) (pa_cons (pe_int) (pa_nil)))) (pe_int) (by first | exact nomark _ | rfl)) (pss_one (ps_setLc (i := 2) (own := [("_law_k", 3)]) (g := gName 3) (tt := tYes) rfl sc__law_hands.nd rfl rfl (sw_true rfl rfl rfl (by decide +kernel)) (pi_range1 rfl T.z_range (pa_cons (pe_int) (pa_nil))) (blkOk_by (own := [("_law_k", 3)]) (N := ["_law_box_here", "_law_world_here", "_law_names_here", "_law_k", "_law_name"]) (sc := defScope s__law_hands) (by decide +kernel)) (fun _ _ _ _ _ => pg_name (i := 3) sc__law_hands.nd rfl (by first | exact Or.inl rfl | exact Or.inr rfl)) (fun _ _ _ _ _ => by exact pts_nil) (fun _ _ _ _ _ => by exact pe_op op_add_str (pe_ix ix_str (pe_str) (pe_op op_mod (pe_op op_add (pe_op op_mul (pe_int) (pv 3)) (pe_int)) (pe_int)) (fun _ _ => rfl)) (pe_ix ix_str (pe_str) (pe_op op_mod (pv 3) (pe_int)) (fun _ _ => rfl))))) (pss_nil))
      (pss_one (ps_ret (pe_callTy (kdictP K rfl) (by rfl) T.z_dict (by decide +kernel) (pa_cons (pe_lc (own := [("_law_name", 4)]) (g := gName 4) (tt := tYes) rfl sc__law_hands.nd (kiL K (pv 2)) (blkOk_by (own := [("_law_name", 4)]) (N := ["_law_box_here", "_law_world_here", "_law_names_here", "_law_k", "_law_name"]) (sc := defScope s__law_hands) (by decide +kernel)) (fun _ _ _ _ _ => pg_name (i := 4) sc__law_hands.nd rfl (by first | exact Or.inl rfl | exact Or.inr rfl)) (fun _ _ _ _ _ => by exact pts_nil) (fun _ _ _ _ _ => by exact pe_tup (pa_cons (pv 4) (pa_cons (gc c__law_value (hr.mono (by decide)) takes0 (pa_cons (pv 0) (pa_cons (pv 1) (pa_nil)))) (pa_nil))))) (pa_nil)))))), ?_⟩
    refine ⟨_, rfl, _, rfl, b, n, 6, rfl, hb, by omega, by decide, by decide, fun H1 m k1 b1 m0 m1 => ?_⟩
    refine ⟨b, _, m, rfl, b1, by omega, m0, by omega, fun l H2 zs hl1 k2 b2 el hz lz => ?_⟩
    have K2 := k1.kp.trans k2
    walk_at "nx"
    refine cut_seq (fun σ' H3 => ∃ (l : Addr) (zs : List Str), σ' = [some (.ref b), some (.ref x.m), some (.ref l), none, none] ∧ Kp [b] H H3 ∧ BoxAt H3 b (n + 23) ∧ l ≠ b ∧ H3 l = some (.lst (zs.map V.str)) ∧ (∀ z ∈ zs, nameS z = true) ∧ zs.length ≤ 40) (fun nx q' => ?_) ?_
    · refine ⟨_, rfl, b, _, 8, rfl, b2, by omega, by decide, by decide, fun H3 e k3 b3 _ _ => ⟨rfl, _, rfl, iteB (fun _ => ?_) (fun _ => ?_)⟩⟩
      · refine ⟨_, rfl, (by decide), (by decide), fun D hD => ?_⟩
        refine lc_range (lo := 0) (n := 40) (fun i H' => Gat (fun z => nameS z = true) [] H3 D i H') (Gat.zero hD) ?_ ?_
        · rintro i H' hi g
          obtain ⟨c, hc, ec⟩ := str_at (z := abc) (i := (7 * (0 + (i : Int)) + 3) % 26) (Int.emod_nonneg _ (by decide)) (by rw [abc_len]; exact Int.emod_lt_of_pos _ (by decide))
          obtain ⟨c2, hc2, ec2⟩ := str_at (z := "pqrs") (i := (0 + (i : Int)) % 4) (Int.emod_nonneg _ (by decide)) (Int.emod_lt_of_pos _ (by decide))
          have pq : letS "pqrs" := List.all_eq_true.mp (by decide +kernel : (sl ("pqrs" : Str)).all letter = true)
          refine ⟨rfl, _, rfl, _, _, rfl, rfl, .inl ⟨by decide, by decide⟩, _, _, rfl, rfl, _, _, rfl, rfl, (by show (0 : Int) < 26; decide), abc, _, c, rfl, rfl, sz_in (by rw [abc_len]; decide), ec, ?_⟩
          refine ⟨_, rfl, _, _, rfl, rfl, (by show (0 : Int) < 4; decide), "pqrs", _, c2, rfl, rfl, (by decide), ec2, _, _, rfl, rfl, (by show 1 + 1 ≤ sizeLine; decide), ?_⟩
          obtain ⟨acc, ea, la, ga⟩ := g.more hD (z := ⟨#[c]⟩ ++ ⟨#[c2]⟩) (name_of (let_app (let_sign abc_let hc) (let_sign pq hc2)) (by rw [app_len]; show 1 ≤ 1 + 1; omega) (by rw [app_len]; show 1 + 1 ≤ 6; omega))
          exact ⟨acc, ea, (by rw [la]; exact sz_lt (by omega)), ga⟩
        · rintro H' ⟨k8, ys, ey, hy, ly⟩
          exact q' _ _ ⟨D, ys, rfl, (K2.trans k3.kp).trans (k8.mono (by simp)), (b3.kp k8 (by simp)).more (by omega), b3.ne hD, ey, hy, by omega⟩
      · exact q' _ _ ⟨l, zs, rfl, K2.trans k3.kp, b3.more (by omega), b1.ne hl1, k3.kp _ _ el (by simpa using b1.ne hl1), hz, by omega⟩
    clear hz el hl1 lz b2 K2 k2 l zs
    rintro σ' H3 ⟨l, zs, rfl, K3, b3, nl, el, hz, lz⟩
    refine ⟨_, rfl, l, rfl, ⟨_, SqL.of el⟩, fun D hD => ?_⟩
    have fk : Kp [b] H H3 := K3
    refine lc_list (a := l) (xs := zs.map V.str) (fun i H' => Kp [b] H3 H' ∧ BoxAt H' b (n + 23 + 4 * i) ∧ ∃ (ps : List Addr) (kvs : List (L2.Key × V)), H' D = some (.lst (ps.map V.ref)) ∧ ps.length = i ∧ kvs.length = i ∧
      Paired (fun p kv => H' p = some (.tup [kV kv.1, kv.2])) ps kvs ∧ ∀ p ∈ kvs, (∃ z : Str, p.1 = .inr z ∧ nameS z = true) ∧ ValM x.rs p.2) ?_ ?_ ?_ ?_
    · exact ⟨fun c o eb _ => (upd_ne (ne_of_none eb hD)).trans eb, (b3.new hD).more (by omega), [], [], upd_same, rfl, rfl, .nil, fun p hp => by cases hp⟩
    · rintro i H' _ ⟨k, _⟩
      exact SqL.of (k l _ el (by simpa using nl))
    · rintro i v H' hv ⟨k, bi, ps, kvs, eD, lp, lk, pr, ok⟩
      rw [List.getElem?_map] at hv
      obtain ⟨z, hz1, rfl⟩ := Option.map_eq_some_iff.mp hv
      have hil : i < zs.length := (List.getElem?_eq_some_iff.mp hz1).1
      have y1 := (y.kp K3 nbS hb.nt).kp k nbS b3.nt
      refine ⟨rfl, _, rfl, _, rfl, _, rfl, x, b, _, rfl, bi, by omega, y1, nb, hl, fun H4 v hv2 k4 b4 => ?_⟩
      have nD : D ≠ b := b3.ne hD
      refine ⟨(by show 2 ≤ sizeLine; decide), fun p hp => ?_⟩
      have k34 := k.trans k4
      have pD : p ≠ D := fun e => by
        have := k4 _ _ eD (by simpa using nD)
        rw [← e, hp] at this; cases this
      have pb : p ≠ b := b4.ne hp
      refine ⟨_, (upd_ne pD.symm).trans (k4 _ _ eD (by simpa using nD)), (by rw [List.length_map, lp]; exact sz_lt (by omega)), fun c o ec hc => ?_, ?_, ps ++ [p], kvs ++ [(.inr z, v)], by rw [upd_same, List.map_append]; rfl, by rw [List.length_append, lp]; rfl, by rw [List.length_append, lk]; rfl, ?_, fun q hq => ?_⟩
      · rw [upd_ne (ne_of_none ec hD), upd_ne (ne_of_none (k34 c o ec hc) hp)]; exact k34 c o ec hc
      · refine ((b4.new (o := .tup [.str z, v]) hp).kp (S := [D]) (fun c o e n => (upd_ne (by simpa using n)).trans e) (by simpa using nD.symm)).more (by push_cast; omega)
      · refine Paired.snoc (Paired.mapP pr fun c kv e => ?_) ?_
        · have cD : c ≠ D := fun z => by rw [z, eD] at e; cases e
          have cb : c ≠ b := fun z => by obtain ⟨_, _, _, eb, _⟩ := bi; rw [z, eb] at e; cases e
          have e4 := k4 _ _ e (by simpa using cb)
          rw [upd_ne cD, upd_ne (ne_of_none e4 hp)]; exact e4
        · rw [upd_ne pD, upd_same]; rfl
      · rcases List.mem_append.mp hq with h | h
        · exact ok q h
        · rw [List.mem_singleton] at h; rw [h]
          exact ⟨⟨z, rfl, hz z (List.mem_of_getElem? hz1)⟩, hv2⟩
    · rintro H4 ⟨k4, b4, ps, kvs, eD, lp, lk, pr, ok⟩
      rw [List.length_map] at lp lk b4
      refine ⟨D, ps, kvs, rfl, SqL.of eD, Paired.mapP pr fun c kv e => SqT.of e, fun d hd => ?_⟩
      have K4 := K3.trans k4
      exact q d _ _ (K4.fr1 b4 hd) (K4.new hd) ((b4.new hd).more (by omega)) upd_same (merge_ok (by simpa using ok) (by simp) (by simp; omega)) (Nat.le_trans (merge_len kvs []) (by simp; omega))
end

end Lw
namespace Lw
open PySem PySem.Spec L2 FG
open PyProof.Rows hiding St
/-! ### texts of nested data fit -/
theorem shw_listN {K : PySem.W.Frag} {H : Hp} {a : Addr} {xs : List V} {ds : List PyData} (e : H a = some (.lst xs)) (h : DpAll K H xs ds) (ok : okDs ds = true) (hb : PyData.bulkAll ds ≤ 300000) (hd : PyData.depthAll ds ≤ 50) : Shw K H (.ref a) (.list ds) :=
  shw_at (.lst (SqL.of e) h) (by simp only [okD]; exact ok) (by simp only [PyData.bulk]; exact hb) (by simp only [PyData.depth]; omega)
structure OkT (d : PyData) (N M : Nat) : Prop where
  ok : okD d = true
  b : d.bulk ≤ N
  h : d.depth ≤ M
theorem OkT.lst1 {z : Str} {d : PyData} {N M : Nat} (y : OkT d N M) (hz : okD (.str z) = true) (hs : (PyData.str z).bulk ≤ 100) : OkT (.list [.str z, d]) (N + 102) (M + 1) := by
  refine ⟨by simp only [okD, okDs] at hz ⊢; simp only [hz, y.ok, Bool.and_self], ?_, ?_⟩
  · have := y.b
    rw [PyData.bulk]
    simp only [PyData.bulkAll]; omega
  · have := y.h
    rw [PyData.depth]
    simp only [PyData.depthAll, PyData.depth]; omega
theorem OkT.lstN {ds : List PyData} {N M : Nat} (ok : okDs ds = true) (b : PyData.bulkAll ds ≤ N) (h : PyData.depthAll ds ≤ M) : OkT (.list ds) N (M + 1) :=
  ⟨by simp only [okD]; exact ok, by rw [PyData.bulk]; exact b, by rw [PyData.depth]; omega⟩
theorem all_ok {N M : Nat} : ∀ {ds : List PyData}, (∀ d ∈ ds, OkT d N M) → okDs ds = true ∧ PyData.bulkAll ds ≤ (N + 1) * ds.length ∧ PyData.depthAll ds ≤ M
  | [], _ => ⟨by simp only [okDs], by simp only [PyData.bulkAll]; omega, by simp only [PyData.depthAll]; omega⟩
  | d :: ds, h => by
    obtain ⟨a, b, c⟩ := h d (by simp)
    obtain ⟨x, y, z⟩ := all_ok (ds := ds) fun u hu => h u (by simp [hu])
    refine ⟨by simp only [okDs, a, x, Bool.and_self], ?_, ?_⟩
    · simp only [PyData.bulkAll, List.length_cons, Nat.mul_add]; omega
    · simp only [PyData.depthAll]; omega
theorem DpAll.snoc {K : PySem.W.Frag} {H : Hp} {v : V} {d : PyData} (y : Dp K H v d) : ∀ {vs : List V} {ds : List PyData}, DpAll K H vs ds → DpAll K H (vs ++ [v]) (ds ++ [d])
  | _, _, .nil => .cons y .nil
  | _, _, .cons a b => .cons a (DpAll.snoc y b)

end Lw
namespace Lw
open PySem PySem.Spec L2 FG
open PyProof.Rows hiding St
/-! ### small data that may be shown -/
theorem tok_hs {hs ts : List (Option Int)} (w : Wf hs ts) {n : Nat} {i : Int} (h : hs[n]? = some (some i)) : i.natAbs < 1000 := by
  have ws := w.small
  by_cases h0 : n = 0
  · subst h0; rw [w.root] at h; cases h
  · have hl := (List.getElem?_eq_some_iff.mp h).1
    obtain ⟨j, e, hj⟩ := w.up n (by omega) hl
    rw [h] at e
    have : i = (j : Int) := by injection e with e; injection e
    omega
def encD : Option Int → PyData
  | none => .none
  | some i => .int i
theorem dp_enc1 {K : PySem.W.Frag} {H : Hp} (o : Option Int) : Dp K H (enc o) (encD o) := by
  cases o with
  | none => exact .non
  | some i => exact .int i
theorem okT_enc {o : Option Int} (h : ∀ i, o = some i → i.natAbs < 1000) : OkT (encD o) 0 0 := by
  have e38 : (10 : Nat) ^ 38 = 100000000000000000000000000000000000000 := by decide
  cases o with
  | none => exact ⟨by simp only [encD, okD], by simp only [encD, PyData.bulk]; omega, by simp only [encD, PyData.depth]; omega⟩
  | some i => exact ⟨by have := h i rfl; simp only [encD, okD, decide_eq_true_eq, e38]; omega, by simp only [encD, PyData.bulk]; omega, by simp only [encD, PyData.depth]; omega⟩
theorem okT_nat {n : Nat} (h : n < 10000) : OkT (pnint n) 0 0 := by
  have e38 : (10 : Nat) ^ 38 = 100000000000000000000000000000000000000 := by decide
  exact ⟨by simp only [pnint, okD, decide_eq_true_eq, e38]; omega, by simp only [pnint, PyData.bulk]; omega, by simp only [pnint, PyData.depth]; omega⟩
theorem okT_nats {xs : List Nat} {N : Nat} (h : ∀ x ∈ xs, x < 10000) (hl : xs.length ≤ N) : OkT (.list (xs.map pnint)) N 1 := by
  obtain ⟨a, b, c⟩ := all_ok (N := 0) (M := 0) (ds := xs.map pnint) fun d hd => by
    obtain ⟨x, hx, rfl⟩ := List.mem_map.mp hd
    exact okT_nat (h x hx)
  exact OkT.lstN a (by rw [List.length_map] at b; omega) c
theorem OkT.more {d : PyData} {N M N' M' : Nat} (y : OkT d N M) (h : N ≤ N') (g : M ≤ M') : OkT d N' M' := ⟨y.ok, Nat.le_trans y.b h, Nat.le_trans y.h g⟩

end Lw
namespace Lw
open PySem PySem.Spec L2 FG
open PyProof.Rows hiding St
/-! ### the picture -/
def TKq (H H' : Hp) : Prop := ∀ a xs, H a = some (.tup xs) → H' a = some (.tup xs)
theorem Kp.tkq {H H' : Hp} (k : Kp [] H H') : TKq H H' := fun a xs e => k a _ e (by simp)
theorem TKq.trans {H H1 H2 : Hp} (a : TKq H H1) (b : TKq H1 H2) : TKq H H2 := fun c xs e => b c xs (a c xs e)
theorem tkq_upd {H : Hp} {a : Addr} {xs ys : List V} (e : H a = some (.lst xs)) : TKq H (upd H a (.lst ys)) := fun b zs h => (upd_ne (ne_of h e (by intro c; cases c))).trans h
def picR (cd : List V → List PyData) (r : Rm) : PyData := .tuple (cd r.cells)
def picF (s : HSt) (cd : List V → List PyData) (f : Nat) : PyData := .tuple [pnint f, encD (s.hs[f]?.getD none), .tuple ((s.giv f).map (picR cd))]
def picD (s : HSt) (cd : List V → List PyData) : PyData := .tuple [pnint s.most, .tuple ((stand s.ts).map (picF s cd))]
def spPicture (K : PySem.W.Frag) : Sp := fun vs H Q _ => ∃ (s : HSt) (cd : List V → List PyData), vs = [.ref s.p] ∧ HoAt (CH K) H s ∧ s.rs.length ≤ 100000 ∧ (∀ r ∈ s.here, ∀ H', TKq H H' → DpAll K H' r.cells (cd r.cells)) ∧
  ∀ v H', Kp [] H H' → (∀ H'', TKq H' H'' → Dp K H'' v (picD s cd)) → Q v H'
section
variable {P : Program} {w : World} {K : PySem.W.Frag} {mg : Str → Option Value} {base : Heap}
theorem ok_picture (T : Tx K mg) {fd : FuncData} {f : Addr} (F : Fun K "picture" "House.picture" s_House_picture f fd) (m_standing : Met P w K mg base 1 (CH K) "standing" (spStanding (CH K))) (m_rooms : Met P w K mg base 5 (CH K) "rooms" (spRooms K)) : FnG P w K mg base 6 f fd ["self"] (spPicture K) := by
  refine FnG.of F sc_House_picture (fun vs H Q E h => ?_) (fun cdv A outer sh H vs Q E hr h => ?_)
  · obtain ⟨s, cd, rfl, _⟩ := h; rfl
  · obtain ⟨s, cd, rfl, ho, hrl, hcd, q⟩ := h
    obtain ⟨dx, fs, e, ff, hf⟩ := ho.ob
    have wf := ho.wf
    have wl := wf.len
    have ws := wf.small
    refine ⟨_, pss_cons (ps_set (i := 1) sc_House_picture.nd rfl (by first | exact Or.inl rfl | exact Or.inr rfl) (pe_lst (pa_nil)))
      (pss_cons (ps_for (passes_of rfl) rfl (kiL K (gm0 m_standing (hr.mono (by decide)) takes0 (pv 0))) (pg_name (i := 2) sc_House_picture.nd rfl (by first | exact Or.inl rfl | exact Or.inr rfl))
        (pss_cons (ps_setLc (i := 3) (own := [("way", 4)]) (g := gName 4) (tt := tYes) rfl sc_House_picture.nd rfl rfl (sw_true rfl rfl rfl (by decide +kernel)) (kiL K (gm m_rooms (hr.mono (by decide)) takes0 (pv 0) (pa_cons (pv 2) (pa_nil)))) (blkOk_by (own := [("way", 4)]) (N := ["self", "frames", "frame", "rooms", "way"]) (sc := defScope s_House_picture) (by decide +kernel)) (fun _ _ _ _ _ => pg_name (i := 4) sc_House_picture.nd rfl (by first | exact Or.inl rfl | exact Or.inr rfl)) (fun _ _ _ _ _ => by exact pts_nil) (fun _ _ _ _ _ => by exact pe_callTy (ktuple K) (by rfl) T.z_tuple (by decide +kernel) (pa_cons (pe_dget hr.hu (kfld K (pv 0)) (pv 4) (fun _ _ => rfl)) (pa_nil))))
      (pss_one (ps_expr (kbm K PySem.F.plainAttrs_list PySem.F.slot_list_append PySem.F.type_list_append mt_append (pv 1) (pa_cons (pe_tup (pa_cons (pv 2) (pa_cons (pe_ix (kixL K) (kfld K (pv 0)) (pv 2) (fun _ _ => rfl)) (pa_cons (pe_callTy (ktuple K) (by rfl) T.z_tuple (by decide +kernel) (pa_cons (pv 3) (pa_nil))) (pa_nil))))) (pa_nil)))))))
      (pss_one (ps_ret (pe_tup (pa_cons (kfld K (pv 0)) (pa_cons (pe_callTy (ktuple K) (by rfl) T.z_tuple (by decide +kernel) (pa_cons (pv 1) (pa_nil))) (pa_nil))))))), ?_⟩
    refine ⟨(by show 0 ≤ sizeLine; decide), fun lf hlf => ?_⟩
    have k1 := (Kp.refl (S := []) (H := H)).new (o := .lst []) hlf
    have e1 : upd H lf (.lst []) lf = some (.lst []) := upd_same
    generalize upd H lf (.lst []) = H1 at *
    refine ⟨_, rfl, s.p, dx, fs, rfl, k1 _ _ e (by simp), ff.no _ (by decide +kernel), s.p, s.h, s.t, s.hs, s.ts, rfl, (ho.kp0 k1).fr, fun l H2 hl k2 el => ?_⟩
    have k12 := k1.trans k2
    have nl : lf ≠ l := ne_of_none e1 hl
    refine ⟨l, rfl, ⟨_, SqL.of el⟩, for_list (K := K) (a := l) (xs := (stand s.ts).map nint) (fun i σ H' => ∃ v2 v3, σ = [some (.ref s.p), some (.ref lf), v2, v3, none] ∧ Kp [] H H' ∧ H' l = some (.lst ((stand s.ts).map nint)) ∧ ∃ vs : List V, H' lf = some (.lst vs) ∧ vs.length = i ∧ ∀ H'', TKq H' H'' → DpAll K H'' vs (((stand s.ts).take i).map (picF s cd)))
      ⟨_, _, rfl, k12, el, [], k2 _ _ e1 (by simp), rfl, fun H'' _ => .nil⟩ (fun i σ H' _ ⟨_, _, _, _, z, _⟩ => SqL.of z) ?_ ?_⟩
    · rintro i x σ H3 hx ⟨v2, v3, rfl, k3, el3, vs, ef3, vl, dp⟩
      obtain ⟨g, hg, rfl⟩ : ∃ g, (stand s.ts)[i]? = some g ∧ x = nint g := by
        rw [List.getElem?_map] at hx
        cases ek : (stand s.ts)[i]? with
        | none => rw [ek] at hx; cases hx
        | some g => rw [ek] at hx; exact ⟨g, rfl, (Option.some.inj hx).symm⟩
      have hgt : s.ts[g]? = some none := mem_stand.mp (List.mem_of_getElem? hg)
      have hgl : g < s.hs.length := by have := (List.getElem?_eq_some_iff.mp hgt).1; omega
      have hi : i < (stand s.ts).length := (List.getElem?_eq_some_iff.mp hg).1
      have sl := stand_len s.ts
      have ho3 := ho.kp0 k3
      refine ⟨_, rfl, s.p, dx, fs, rfl, k3 _ _ e (by simp), ff.no _ (by decide +kernel), _, rfl, s, g, rfl, ho3, hgt, fun l4 H4 hl4 k4 el4 => ⟨l4, rfl, ⟨_, SqL.of el4⟩, fun D hD => ?_⟩⟩
      have neD : ∀ b o, H4 b = some o → b ≠ D := fun b o eb => ne_of_none eb hD
      have k34 := k3.trans k4
      refine lc_list (K := K) (a := l4) (xs := (s.giv g).map fun r => V.ref r.w) (fun i H5 => Kp [] H4 H5 ∧ ∃ us : List V, H5 D = some (.lst us) ∧ us.length = i ∧ ∀ H'', TKq H5 H'' → DpAll K H'' us (((s.giv g).take i).map (picR cd)))
        ⟨fun b o eb _ => (upd_ne (neD b o eb)).trans eb, [], upd_same, rfl, fun H'' _ => .nil⟩ (fun i H5 _ ⟨k5, _⟩ => SqL.of (k5 _ _ el4 (by simp))) ?_ ?_
      · rintro j y H5 hy ⟨k5, us, eD, ul, du⟩
        obtain ⟨r, hr2, rfl⟩ : ∃ r, (s.giv g)[j]? = some r ∧ y = .ref r.w := by
          rw [List.getElem?_map] at hy
          cases ek : (s.giv g)[j]? with
          | none => rw [ek] at hy; cases hy
          | some r => rw [ek] at hy; exact ⟨r, rfl, (Option.some.inj hy).symm⟩
        have hm := List.mem_of_getElem? hr2
        have hj := (List.getElem?_eq_some_iff.mp hr2).1
        obtain ⟨hrs, hrf⟩ := List.mem_filter.mp hm
        have hrf := of_decide_eq_true hrf
        have hup : s.up r = true := decide_eq_true (hrf ▸ hgt)
        have hh := mem_here hrs hup
        have k35 := k34.trans k5
        have ho5 := ho.kp0 k35
        have gl2 : (s.giv g).length ≤ 100000 := Nat.le_trans (List.length_filter_le _ _) hrl
        refine ⟨rfl, _, rfl, s.p, CH K, dx, fs, _, rfl, k35 _ _ e (by simp), T.c_House, T.n_House_held, hf.hd, _, rfl, s.hd, _, rfl, by rw [← hv_in ho.pl (here_sub s) hh]; exact DGet.t (k := r.key) ho5.hd (ho5.wl r hrs), r.c, _, rfl, .inl ⟨SqL.of (ho5.cl r hh), fun q2 hq2 => ?_⟩⟩
        have k6 := (Kp.refl (S := []) (H := H5)).new (o := .tup r.cells) hq2
        have e6 : upd H5 q2 (.tup r.cells) q2 = some (.tup r.cells) := upd_same
        generalize upd H5 q2 (.tup r.cells) = H6 at *
        have eD6 := k6 _ _ eD (by simp)
        refine ⟨_, eD6, (by rw [ul]; exact Nat.lt_of_le_of_lt (m := 100000) (by omega) (by decide)), fun b o eb _ => (upd_ne (neD b o eb)).trans ((k5.trans k6) b o eb (by simp)), us ++ [.ref q2], upd_same, by rw [List.length_append, ul]; rfl, fun H'' k'' => ?_⟩
        have t6 : TKq H6 H'' := (tkq_upd eD6).trans k''
        rw [List.take_succ, hr2, List.map_append]
        refine DpAll.snoc ?_ (du H'' (k6.tkq.trans t6))
        exact .tup (SqT.of (t6 _ _ e6)) (hcd r hh H'' ((k35.trans k6).tkq.trans t6))
      · rintro H5 ⟨k5, us, eD, ul, du⟩
        have k35 := k34.trans k5
        have ho5 := ho.kp0 k35
        refine ⟨_, rfl, .inl ⟨rfl, _, SqL.of (k5 _ _ (k4 _ _ ef3 (by simp)) (by simp))⟩, _, rfl, _, rfl, s.p, CH K, dx, fs, _, rfl, k35 _ _ e (by simp), T.c_House, T.n_House_holders, ff.hh, _, rfl, s.h, _, _, _, rfl, rfl, SqL.of ho5.lh, get_enc (List.getElem?_eq_getElem hgl), _, rfl, D, _, rfl, .inl ⟨SqL.of eD, fun q2 hq2 => ?_⟩⟩
        have k6 := (Kp.refl (S := []) (H := H5)).new (o := .tup us) hq2
        have e6 : upd H5 q2 (.tup us) q2 = some (.tup us) := upd_same
        generalize upd H5 q2 (.tup us) = H6 at *
        refine ⟨(by show 3 ≤ sizeLine; decide), fun q3 hq3 => ?_⟩
        have k7 := (Kp.refl (S := []) (H := H6)).new (o := .tup [nint g, enc s.hs[g], .ref q2]) hq3
        have e7 : upd H6 q3 (.tup [nint g, enc s.hs[g], .ref q2]) q3 = some (.tup [nint g, enc s.hs[g], .ref q2]) := upd_same
        generalize upd H6 q3 (.tup [nint g, enc s.hs[g], .ref q2]) = H7 at *
        have k47 := (k4.trans k5).trans (k6.trans k7)
        have ef7 := k47 _ _ ef3 (by simp)
        have el7 := k47 _ _ el3 (by simp)
        refine ⟨lf, vs, _, rfl, rfl, ef7, (by rw [vl]; exact Nat.lt_of_le_of_lt (m := 1000) (by omega) (by decide)), _, _, rfl, fun b o eb _ => (upd_ne (ne_of_none eb hlf)).trans ((k3.trans k47) b o eb (by simp)), (upd_ne nl.symm).trans el7, vs ++ [.ref q3], upd_same, by rw [List.length_append, vl]; rfl, fun H'' k'' => ?_⟩
        have t7 : TKq H7 H'' := (tkq_upd ef7).trans k''
        rw [List.take_succ, hg, List.map_append]
        refine DpAll.snoc ?_ (dp H'' (k47.tkq.trans t7))
        have eG : s.hs[g]?.getD none = s.hs[g] := by rw [List.getElem?_eq_getElem hgl]; rfl
        unfold picF
        rw [eG]
        have du2 := du H'' ((k6.trans k7).tkq.trans t7)
        rw [List.take_of_length_le (by rw [List.length_map]; exact Nat.le_refl _)] at du2
        exact .tup (SqT.of (t7 _ _ e7)) (.cons (.int _) (.cons (dp_enc1 _) (.cons (.tup (SqT.of (t7 _ _ (k7 _ _ e6 (by simp)))) du2) .nil)))
    · rintro σ H3 ⟨v2, v3, rfl, k3, el3, vs, ef3, vl, dp⟩
      rw [List.length_map, List.take_length] at dp
      refine ⟨_, rfl, s.p, CH K, dx, fs, _, rfl, k3 _ _ e (by simp), T.c_House, T.n_House_most, hf.most, _, rfl, lf, _, rfl, .inl ⟨SqL.of ef3, fun q2 hq2 => ?_⟩⟩
      have k6 := (Kp.refl (S := []) (H := H3)).new (o := .tup vs) hq2
      have e6 : upd H3 q2 (.tup vs) q2 = some (.tup vs) := upd_same
      generalize upd H3 q2 (.tup vs) = H6 at *
      refine ⟨(by show 2 ≤ sizeLine; decide), fun q3 hq3 => ?_⟩
      have k7 := (Kp.refl (S := []) (H := H6)).new (o := .tup [nint s.most, .ref q2]) hq3
      have e7 : upd H6 q3 (.tup [nint s.most, .ref q2]) q3 = some (.tup [nint s.most, .ref q2]) := upd_same
      refine q _ _ (k3.trans (k6.trans k7)) fun H'' t7 => ?_
      exact .tup (SqT.of (t7 _ _ e7)) (.cons (.int _) (.cons (.tup (SqT.of (t7 _ _ (k7 _ _ e6 (by simp)))) (dp H'' ((k6.trans k7).tkq.trans t7))) .nil))
end

end Lw
namespace Lw
open PySem PySem.Spec L2 FG
open PyProof.Rows hiding St
/-! ### values as data; the ways that lead in, as data -/
theorem pair_eta {T : Type} {x : T × T} : x = (x.1, x.2) := rfl
/-- v is none, a number or a way, and d tells it -/
def Vd (H : Hp) (v : V) (d : PyData) : Prop := (v = .non ∧ d = .none) ∨ (∃ z : Int, v = .int z ∧ d = .int z ∧ z.natAbs < 10 ^ 37) ∨ ∃ (q : Addr) (f o : Nat), v = .ref q ∧ H q = some (.tup [.int (f : Int), .int (o : Int)]) ∧ d = wayD f o ∧ f < 10000 ∧ o < 10000
theorem Vd.tk {H H' : Hp} {v : V} {d : PyData} (h : Vd H v d) (k : TKq H H') : Vd H' v d := by
  rcases h with h | h | ⟨q, f, o, e, eq, ed, h⟩
  · exact .inl h
  · exact .inr (.inl h)
  · exact .inr (.inr ⟨q, f, o, e, k q _ eq, ed, h⟩)
theorem Vd.dp {K : PySem.W.Frag} {H : Hp} {v : V} {d : PyData} (h : Vd H v d) : Dp K H v d := by
  rcases h with ⟨rfl, rfl⟩ | ⟨z, rfl, rfl, _⟩ | ⟨q, f, o, rfl, eq, rfl, _⟩
  · exact .non
  · exact .int z
  · exact dp_way eq
theorem Vd.shaped {H : Hp} {v : V} {d : PyData} (h : Vd H v d) : SeqAt.shaped d = true := by
  rcases h with ⟨rfl, rfl⟩ | ⟨z, rfl, rfl, _⟩ | ⟨q, f, o, rfl, eq, rfl, _⟩ <;> rfl
theorem okT_way {f o : Nat} (h : f < 10000) (g : o < 10000) : OkT (wayD f o) 2 1 := by
  have e38 : (10 : Nat) ^ 38 = 100000000000000000000000000000000000000 := by decide
  refine ⟨?_, ?_, ?_⟩
  · simp only [wayD, pnint, okD, okDs, Bool.and_true, Bool.and_eq_true, decide_eq_true_eq, e38]; omega
  · simp only [wayD, pnint, PyData.bulk, PyData.bulkAll]; omega
  · simp only [wayD, pnint, PyData.depth, PyData.depthAll]; omega
theorem Vd.ok {H : Hp} {v : V} {d : PyData} (h : Vd H v d) : OkT d 2 1 := by
  have e38 : (10 : Nat) ^ 38 = 100000000000000000000000000000000000000 := by decide
  have e37 : (10 : Nat) ^ 37 = 10000000000000000000000000000000000000 := by decide
  rcases h with ⟨rfl, rfl⟩ | ⟨z, rfl, rfl, hz⟩ | ⟨q, f, o, rfl, eq, rfl, hf, ho⟩
  · exact ⟨by simp only [okD], by simp only [PyData.bulk]; omega, by simp only [PyData.depth]; omega⟩
  · exact ⟨by simp only [okD, decide_eq_true_eq]; omega, by simp only [PyData.bulk]; omega, by simp only [PyData.depth]; omega⟩
  · exact okT_way hf ho
/-- the data of what the law's rows hold -/
def vdat (rs : List Rm) (v : V) : PyData := match v with
  | .int z => .int z
  | .ref q => match rs.find? (fun r => decide (r.w = q)) with
    | some r => wayD r.f r.o
    | none => .none
  | _ => .none
theorem vdat_ok {H : Hp} {rs : List Rm} {v : V} (wl : ∀ r ∈ rs, H r.w = some (.tup [.int (r.f : Int), .int (r.o : Int)])) (sm : ∀ r ∈ rs, r.f < 10000 ∧ r.o < 10000) (h : ValM rs v) : Vd H v (vdat rs v) := by
  rcases h with rfl | ⟨z, rfl, hz⟩ | ⟨r, hr, rfl⟩
  · exact .inl ⟨rfl, rfl⟩
  · exact .inr (.inl ⟨z, rfl, rfl, hz⟩)
  · unfold vdat
    dsimp only
    cases e : rs.find? (fun q => decide (q.w = r.w)) with
    | none =>
      have := List.find?_eq_none.mp e r hr
      simp at this
    | some q =>
      have hq := List.mem_of_find?_eq_some e
      have hw : q.w = r.w := of_decide_eq_true (List.find?_some (p := fun q : Rm => decide (q.w = r.w)) e)
      exact .inr (.inr ⟨r.w, q.f, q.o, rfl, by rw [← hw]; exact wl q hq, rfl, (sm q hq).1, (sm q hq).2⟩)
/-- is it one of these ways -/
def inB (ps : List (Nat × Nat)) (d : PyData) : Bool := (ps.map fun p => wayD p.1 p.2).any fun z => PyData.eqv z d
theorem eqv_way (f o a b : Nat) : PyData.eqv (wayD f o) (wayD a b) = decide ((f, o) = (a, b)) := by
  have e : PyData.eqv (wayD f o) (wayD a b) = (((f : Int) == (a : Int)) && (((o : Int) == (b : Int)) && true)) := by simp only [wayD, pnint, PyData.eqv, PyData.eqvAll]
  rw [e]
  by_cases h : f = a
  · by_cases g : o = b
    · rw [decide_eq_true (by rw [h, g])]; simp [h, g]
    · rw [decide_eq_false (fun z => g (congrArg Prod.snd z))]
      have : ((o : Int) == (b : Int)) = false := beq_eq_false_iff_ne.mpr (by omega)
      rw [this]; simp
  · rw [decide_eq_false (fun z => h (congrArg Prod.fst z))]
    have : ((f : Int) == (a : Int)) = false := beq_eq_false_iff_ne.mpr (by omega)
    rw [this]; simp
theorem inB_way (ps : List (Nat × Nat)) (f o : Nat) : inB ps (wayD f o) = decide ((f, o) ∈ ps) := by
  unfold inB
  rw [List.any_map]
  have : (fun z => PyData.eqv z (wayD f o)) ∘ (fun p : Nat × Nat => wayD p.1 p.2) = fun p => decide (p = (f, o)) := funext fun p => eqv_way p.1 p.2 f o
  rw [this]
  by_cases h : (f, o) ∈ ps
  · rw [decide_eq_true h]; exact List.any_eq_true.mpr ⟨_, h, decide_eq_true rfl⟩
  · rw [decide_eq_false h]
    exact List.any_eq_false.mpr fun p hp z => h (by have := of_decide_eq_true z; exact this ▸ hp)
theorem inB_no {ps : List (Nat × Nat)} {d : PyData} (h : d = .none ∨ ∃ z, d = .int z) : inB ps d = false := by
  unfold inB
  rw [List.any_map]
  refine List.any_eq_false.mpr fun p _ z => ?_
  rcases h with rfl | ⟨i, rfl⟩ <;> cases z
def insK (ps : List (Nat × Nat)) : List (List L2.Key × V) := ps.map fun p => ([.inl (p.1 : Int), .inl (p.2 : Int)], .bl true)
theorem insK_val (ps : List (Nat × Nat)) (f o : Nat) : (valV (insK ps) [.inl (f : Int), .inl (o : Int)]).isSome = decide ((f, o) ∈ ps) := by
  unfold valV insK
  rw [Option.isSome_map]
  by_cases h : (f, o) ∈ ps
  · rw [decide_eq_true h]
    exact List.find?_isSome.mpr ⟨_, List.mem_map.mpr ⟨_, h, rfl⟩, decide_eq_true rfl⟩
  · rw [decide_eq_false h]
    have e : List.find? (fun kv : List L2.Key × V => decide (kv.1 = [.inl (f : Int), .inl (o : Int)])) (ps.map fun p => (([.inl (p.1 : Int), .inl (p.2 : Int)] : List L2.Key), V.bl true)) = none := by
      refine List.find?_eq_none.mpr fun kv hkv z => ?_
      obtain ⟨p, hp, rfl⟩ := List.mem_map.mp hkv
      have z2 := of_decide_eq_true z
      injection z2 with z1 z2
      injection z2 with z2 _
      injection z1 with z1
      injection z2 with z2
      have e1 : p.1 = f := by omega
      have e2 : p.2 = o := by omega
      exact h (by rw [← e1, ← e2]; exact hp)
    rw [e]; rfl
/-- asked of the house's dict of inner rooms -/
theorem Vd.get {H : Hp} {v : V} {d : PyData} {a : Addr} {ps : List (Nat × Nat)} (h : Vd H v d) (e : H a = some (.dT (insK ps))) : ∃ o, DGetA H a v o ∧ o.isSome = inB ps d := by
  rcases h with ⟨rfl, rfl⟩ | ⟨z, rfl, rfl, _⟩ | ⟨q, f, o, rfl, eq, rfl, _⟩
  · exact ⟨none, .inr ⟨_, .inl e, .inl rfl, rfl⟩, (inB_no (.inl rfl)).symm⟩
  · exact ⟨none, .inr ⟨_, .inl e, .inr ⟨z, rfl⟩, rfl⟩, (inB_no (.inr ⟨z, rfl⟩)).symm⟩
  · exact ⟨_, .inl (DGet.t (k := [.inl (f : Int), .inl (o : Int)]) e eq), by rw [insK_val, inB_way]⟩

end Lw
namespace Lw
open PySem PySem.Spec L2 FG
open PyProof.Rows hiding St
/-! ### the house's steps -/
abbrev Tr := Nat × Nat × List V
def gv (R : List Tr) (f : Nat) : List Tr := R.filter fun t => decide (t.1 = f)
def allR (ts : List (Option Int)) (R : List Tr) : List Tr := (stand ts).flatMap (gv R)
def insP (hs ts : List (Option Int)) (R : List Tr) (f : Nat) : List (Nat × Nat) := ((allR ts R).filter fun t => decide (f ∈ rowW hs t.1)).map fun t => (t.1, t.2.1)
def keyD : L2.Key → PyData
  | .inl i => .int i
  | .inr z => .str z
/-- one step, plainly: from a hand, or from a room's cell; and what it leads to -/
inductive St0
  | hand (k : L2.Key) (v : V)
  | room (f o k : Nat) (v : V)
def St0.val : St0 → V
  | .hand _ v => v
  | .room _ _ _ v => v
def St0.data (vd : V → PyData) : St0 → PyData
  | .hand k v => .tuple [.str "hand", keyD k, vd v]
  | .room f o k v => .tuple [.str "room", wayD f o, .int (k : Nat), vd v]
def StepAt (H : Hp) (p : Addr) : St0 → Prop
  | .hand k v => H p = some (.tup [.str "hand", kV k, v])
  | .room f o k v => ∃ q, H p = some (.tup [.str "room", .ref q, .int (k : Nat), v]) ∧ H q = some (.tup [.int (f : Int), .int (o : Int)])
theorem StepAt.tk {H H' : Hp} {p : Addr} {s : St0} (h : StepAt H p s) (k : TKq H H') : StepAt H' p s := by
  cases s with
  | hand a v => exact k _ _ h
  | room f o a v => obtain ⟨q, e1, e2⟩ := h; exact ⟨q, k _ _ e1, k _ _ e2⟩
theorem StepAt.dp {K : PySem.W.Frag} {H : Hp} {p : Addr} {s : St0} {vd : V → PyData} (h : StepAt H p s) (hv : Vd H s.val (vd s.val)) : Dp K H (.ref p) (s.data vd) := by
  cases s with
  | hand k v =>
    refine .tup (SqT.of h) (.cons (.str _) (.cons ?_ (.cons hv.dp .nil)))
    cases k with
    | inl i => exact .int i
    | inr z => exact .str z
  | room f o k v =>
    obtain ⟨q, e1, e2⟩ := h
    exact .tup (SqT.of e1) (.cons (.str _) (.cons (dp_way e2) (.cons (.int _) (.cons hv.dp .nil))))
def handD (vd : V → PyData) (ps : List (Nat × Nat)) (kvs : List (L2.Key × V)) : List St0 := (kvs.filter fun p => inB ps (vd p.2)).map fun p => .hand p.1 p.2
def cellsD (vd : V → PyData) (ps : List (Nat × Nat)) (t : Tr) (n : Nat) : List St0 := ((t.2.2.zipIdx.take n).filter fun c => inB ps (vd c.1)).map fun c => .room t.1 t.2.1 c.2 c.1
def roomsD (vd : V → PyData) (ps : List (Nat × Nat)) (l : List Tr) : List St0 := (l.filter fun t => decide ((t.1, t.2.1) ∉ ps)).flatMap fun t => cellsD vd ps t t.2.2.length
def stepsD (vd : V → PyData) (ps : List (Nat × Nat)) (kvs : List (L2.Key × V)) (l : List Tr) : List St0 := handD vd ps kvs ++ roomsD vd ps l
theorem cellsD_len (vd : V → PyData) (ps : List (Nat × Nat)) (t : Tr) (n : Nat) : (cellsD vd ps t n).length ≤ n := by
  unfold cellsD
  rw [List.length_map]
  exact Nat.le_trans (List.length_filter_le _ _) (List.length_take_le _ _)
/-- at l a list of these steps -/
def StL (K : PySem.W.Frag) (H : Hp) (l : Addr) (ss : List St0) : Prop := ∃ ps : List Addr, H l = some (.lst (ps.map V.ref)) ∧ Paired (fun p s => StepAt H p s) ps ss
theorem StL.kp {K : PySem.W.Frag} {H H' : Hp} {l : Addr} {ss : List St0} (x : StL K H l ss) (k : Kp [] H H') : StL K H' l ss := by
  obtain ⟨ps, e, h⟩ := x
  exact ⟨ps, k _ _ e (by simp), Paired.mapP h fun p s q => q.tk k.tkq⟩
theorem StL.zero {K : PySem.W.Frag} {H : Hp} {l : Addr} : StL K (upd H l (.lst [])) l [] := ⟨[], upd_same, .nil⟩
theorem StL.snoc {K : PySem.W.Frag} {H H1 : Hp} {l p : Addr} {vs : List V} {ss : List St0} {s : St0} (x : StL K H l ss) (hp : H p = none) (e1 : H1 = upd H p (.tup vs)) (hd : StepAt H1 p s) :
    ∃ ts, H1 l = some (.lst ts) ∧ ts.length = ss.length ∧ StL K (upd H1 l (.lst (ts ++ [.ref p]))) l (ss ++ [s]) := by
  subst e1
  obtain ⟨ps, e, h⟩ := x
  have k1 := (Kp.refl (S := []) (H := H)).new (o := .tup vs) hp
  have e2 : upd H p (.tup vs) l = some (.lst (ps.map V.ref)) := k1 _ _ e (by simp)
  have t2 : TKq (upd H p (.tup vs)) (upd (upd H p (.tup vs)) l (.lst (ps.map V.ref ++ [.ref p]))) := tkq_upd e2
  refine ⟨_, e2, by rw [List.length_map]; exact Paired.length h, ps ++ [p], by rw [upd_same, List.map_append]; rfl, Paired.snoc (Paired.mapP h fun q s' z => (z.tk k1.tkq).tk t2) (hd.tk t2)⟩
theorem dp_room {H : Hp} {p q : Addr} {f o k : Nat} {v : V} {d : PyData} (e : H p = some (.tup [.str "room", .ref q, .int (k : Nat), v])) (eq : H q = some (.tup [.int (f : Int), .int (o : Int)])) (hv : Vd H v d) :
    StepAt H p (.room f o k v) := ⟨q, e, eq⟩
theorem dp_hand {H : Hp} {p : Addr} {k : L2.Key} {v : V} {d : PyData} (e : H p = some (.tup [.str "hand", kV k, v])) (hv : Vd H v d) : StepAt H p (.hand k v) := e
theorem more_yes {α β : Type} (f : α → β) (p : α → Bool) {xs : List α} {i : Nat} {x : α} (h : xs[i]? = some x) (hp : p x = true) : ((xs.take (i + 1)).filter p).map f = ((xs.take i).filter p).map f ++ [f x] := by
  rw [filter_more p h, hp]; simp
theorem more_no {α β : Type} (f : α → β) (p : α → Bool) {xs : List α} {i : Nat} {x : α} (h : xs[i]? = some x) (hp : p x = false) : ((xs.take (i + 1)).filter p).map f = ((xs.take i).filter p).map f := by
  rw [filter_more p h, hp]; simp
theorem cells_yes {vd : V → PyData} {ps : List (Nat × Nat)} {t : Tr} {i : Nat} {v : V} (h : t.2.2.zipIdx[i]? = some (v, i)) (hb : inB ps (vd v) = true) : cellsD vd ps t (i + 1) = cellsD vd ps t i ++ [.room t.1 t.2.1 i v] :=
  more_yes (fun c : V × Nat => St0.room t.1 t.2.1 c.2 c.1) (fun c => inB ps (vd c.1)) h hb
theorem cells_no {vd : V → PyData} {ps : List (Nat × Nat)} {t : Tr} {i : Nat} {v : V} (h : t.2.2.zipIdx[i]? = some (v, i)) (hb : inB ps (vd v) = false) : cellsD vd ps t (i + 1) = cellsD vd ps t i :=
  more_no (fun c : V × Nat => St0.room t.1 t.2.1 c.2 c.1) (fun c => inB ps (vd c.1)) h hb
theorem ho_touch {K : PySem.W.Frag} {H1 : Hp} {s : HSt} {r : Rm} {q : Addr} {Y : Rm → Hp → Prop} {E : XK} (pl : HPl s) (hr : r ∈ s.here) (h : ∀ H', Kp [] H1 H' → Y r H') : RoomOut K H1 s q r.f r.o Y E := by
  have hp1 := (here_sub s).subset hr
  have hpu : s.up r = true := (List.mem_filter.mp hr).2
  refine ⟨fun z hz f1 f2 _ H' k => ?_, fun z hz f1 f2 fu => ?_, fun no => absurd ⟨rfl, rfl⟩ (no r hp1)⟩
  · have := same_room pl hz hp1 f1 f2
    subst this
    exact h H' k
  · have := same_room pl hz hp1 f1 f2
    subst this
    rw [fu] at hpu; cases hpu
def spStepsFrom (K : PySem.W.Frag) : Sp := fun vs H Q _ => ∃ (s : HSt) (r : Rm) (wq a : Addr) (ps : List (Nat × Nat)) (vd : V → PyData), vs = [.ref s.p, .ref wq, .ref a] ∧ HoAt (CH K) H s ∧ r ∈ s.here ∧ H wq = some (.tup [.int (r.f : Int), .int (r.o : Int)]) ∧ H a = some (.dT (insK ps)) ∧ (∀ v ∈ r.cells, Vd H v (vd v)) ∧
  ∀ l H', H l = none → Kp [] H H' → StL K H' l (cellsD vd ps (rho r) r.cells.length) → Q (.ref l) H'
section
variable {P : Program} {w : World} {K : PySem.W.Frag} {mg : Str → Option Value} {base : Heap}
theorem ok_sfrom (T : Tx K mg) {fd : FuncData} (F : Fun K "steps_from" "steps_from" s_steps_from (He.ga K "steps_from") fd) (m_cells : Met P w K mg base 4 (CH K) "cells" (spCells K)) : FnG P w K mg base 5 (He.ga K "steps_from") fd ["house", "holder", "inner"] (spStepsFrom K) := by
  obtain ⟨tM, hg_ROOM⟩ := T.i_ROOM
  refine FnG.of F sc_steps_from (fun vs H Q E h => ?_) (fun cdv A outer sh H vs Q E hr h => ?_)
  · obtain ⟨s, r, wq, a, ps, vd, rfl, _⟩ := h; rfl
  · obtain ⟨s, r, wq, a, ps, vd, rfl, ho, hh, ewq, ea, hv, q⟩ := h
    obtain ⟨dx, fs, e, ff, hf⟩ := ho.ob
    have hrs := (here_sub s).subset hh
    have sz := ho.pl.sz r hrs
    refine ⟨_, pss_one (ps_ret (pe_lc (own := [("k", 3), ("way", 4)]) (g := gTup K 2 (gCons (gName 3) (gCons (gName 4) (gNil)))) rfl sc_steps_from.nd (kiEnum K rfl T.z_enumerate (pa_cons (gm m_cells (hr.mono (by decide)) takes0 (pv 0) (pa_cons (pv 1) (pa_nil))) (pa_nil))) (blkOk_by (own := [("k", 3), ("way", 4)]) (N := ["house", "holder", "inner", "k", "way"]) (sc := defScope s_steps_from) (by decide +kernel)) (fun _ _ _ _ _ => by exact kgT K rfl (pgs_cons (pg_name (i := 3) sc_steps_from.nd rfl (by first | exact Or.inl rfl | exact Or.inr rfl)) (pgs_cons (pg_name (i := 4) sc_steps_from.nd rfl (by first | exact Or.inl rfl | exact Or.inr rfl)) (pgs_nil)))) (fun _ _ _ _ _ => by exact pts_one (pt_cmp (pc_dinA hr.u65 (pv 4) (pv 2)))) (fun _ _ _ _ _ => by exact pe_tup (pa_cons (pe_glob (v := .str "room") rfl hg_ROOM ⟨_, rfl⟩) (pa_cons (pv 1) (pa_cons (pv 3) (pa_cons (pv 4) (pa_nil)))))))), ?_⟩
    refine ⟨_, rfl, s.p, dx, fs, rfl, e, ff.no _ (by decide +kernel), _, rfl, s, wq, r.f, r.o, rfl, ho, ewq, ho_touch ho.pl hh fun H1 k1 c H2 hc k2 ec => ?_⟩
    have K2 := k1.trans k2
    refine ⟨c, r.cells, rfl, SqL.of ec, fun D hD => ?_⟩
    refine lc_it walk_enum (fun i H' => Kp [] H2 H' ∧ H' c = some (.lst r.cells) ∧ StL K H' D (cellsD vd ps (rho r) i)) ⟨Kp.refl.new hD, (upd_ne (ne_of_none ec hD)).trans ec, ?_⟩ (fun i H' _ z => SqL.of z.2.1) ?_ ?_
    · exact StL.zero
    · rintro i x H3 H4 hi ⟨k3, e3, st⟩ ⟨T', x1, x2, rfl, hT, rfl, ex1, ex2⟩
      obtain rfl : V.int (i : Nat) = x1 := Option.some.inj ex1
      have hi2 : i < r.cells.length := hi
      have hz : r.cells.zipIdx[i]? = some (x2, i) := by
        rw [List.getElem?_zipIdx, show r.cells[i]? = some x2 from ex2]; simp
      have kT := (Kp.refl (S := []) (H := H3)).new (o := .tup [.int (i : Nat), x2]) hT
      have eT : upd H3 T' (.tup [.int (i : Nat), x2]) T' = some (.tup [.int (i : Nat), x2]) := upd_same
      generalize upd H3 T' (.tup [.int (i : Nat), x2]) = H4 at *
      have K4 := (K2.trans k3).trans kT
      have vd4 : Vd H4 x2 (vd x2) := (hv x2 (List.mem_of_getElem? ex2)).tk K4.tkq
      obtain ⟨o, dg, eo⟩ := vd4.get (K4 _ _ ea (by simp))
      refine ⟨T', _, rfl, SqT.of eT, rfl, _, _, rfl, _, _, rfl, rfl, ?_⟩
      refine ⟨rfl, _, rfl, _, rfl, a, o, rfl, dg, ?_⟩
      rw [eo]
      cases hb : inB ps (vd x2) with
      | true =>
        refine ⟨_, rfl, ?_⟩
        refine ⟨_, rfl, _, rfl, _, rfl, (by show 4 ≤ sizeLine; decide), fun p hp => ?_⟩
        obtain ⟨ts, e5, lt, st5⟩ := (st.kp kT).snoc hp rfl (dp_room (f := r.f) (o := r.o) upd_same ((K4.new hp) _ _ ewq (by simp)) (vd4.tk (Kp.refl.new hp).tkq))
        have kp5 := (k3.trans kT).new (o := .tup [.str "room", .ref wq, .int (i : Nat), x2]) hp
        have nDc : c ≠ D := ne_of_none ec hD
        refine ⟨ts, e5, ?_, fun b o eb hb' => (upd_ne (ne_of_none eb hD)).trans (kp5 b o eb hb'), (upd_ne nDc).trans (((Kp.refl.new hp) : Kp [] H4 _) _ _ (kT _ _ e3 (by simp)) (by simp)), ?_⟩
        · rw [lt]; exact sz_lt (Nat.le_trans (cellsD_len _ _ _ _) (by omega))
        · rw [cells_yes (t := rho r) hz hb]
          exact st5
      | false =>
        refine ⟨_, rfl, ?_⟩
        refine ⟨k3.trans kT, kT _ _ e3 (by simp), ?_⟩
        rw [cells_no (t := rho r) hz hb]
        exact st.kp kT
    · rintro H' ⟨k3, _, st⟩
      exact q D H' ((K2.free hD)) (K2.trans k3) st
end

end Lw
namespace Lw
open PySem PySem.Spec L2 FG
open PyProof.Rows hiding St
/-! ### the rooms inside -/
def MIn (s : HSt) (f : Nat) (gs : List Nat) (p : Nat × Nat) : Prop := ∃ r ∈ s.rs, r.f ∈ gs ∧ f ∈ rowW s.hs r.f ∧ p = (r.f, r.o)
theorem mem_insP {hs ts : List (Option Int)} {rs : List Rm} {f : Nat} {p : Nat × Nat} : p ∈ insP hs ts (rs.map rho) f ↔ ∃ r ∈ rs, ts[r.f]? = some none ∧ f ∈ rowW hs r.f ∧ p = (r.f, r.o) := by
  unfold insP allR gv
  simp only [List.mem_map, List.mem_filter, List.mem_flatMap, decide_eq_true_eq]
  constructor
  · rintro ⟨t, ⟨⟨g, hg, ⟨r, hr, rfl⟩, e⟩, hf⟩, rfl⟩
    exact ⟨r, hr, by have := mem_stand.mp hg; rw [← e] at this; exact this, hf, rfl⟩
  · rintro ⟨r, hr, h1, h2, rfl⟩
    exact ⟨rho r, ⟨⟨r.f, mem_stand.mpr h1, ⟨r, hr, rfl⟩, rfl⟩, h2⟩, rfl⟩
theorem mIn_all {s : HSt} {f : Nat} {p : Nat × Nat} : MIn s f (stand s.ts) p ↔ p ∈ insP s.hs s.ts (s.rs.map rho) f := by
  rw [mem_insP]
  unfold MIn
  constructor
  · rintro ⟨r, hr, h1, h2, h3⟩; exact ⟨r, hr, mem_stand.mp h1, h2, h3⟩
  · rintro ⟨r, hr, h1, h2, h3⟩; exact ⟨r, hr, mem_stand.mpr h1, h2, h3⟩
theorem inB_congr {ps qs : List (Nat × Nat)} (h : ∀ p, p ∈ ps ↔ p ∈ qs) (d : PyData) : inB ps d = inB qs d := by
  have key : ∀ {ps qs : List (Nat × Nat)}, (∀ p, p ∈ ps → p ∈ qs) → inB ps d = true → inB qs d = true := by
    intro ps qs h e
    unfold inB at e ⊢
    rw [List.any_map, List.any_eq_true] at e ⊢
    obtain ⟨p, hp, e⟩ := e
    exact ⟨p, h p hp, e⟩
  rw [Bool.eq_iff_iff]
  exact ⟨key fun p => (h p).mp, key fun p => (h p).mpr⟩
theorem putK_ins (ps : List (Nat × Nat)) (f o : Nat) : ∃ qs, putK (insK ps) [.inl (f : Int), .inl (o : Int)] (.bl true) = insK qs ∧ (∀ p, p ∈ qs ↔ p ∈ ps ∨ p = (f, o)) ∧ qs.length ≤ ps.length + 1 := by
  have hv := insK_val ps f o
  by_cases h : (f, o) ∈ ps
  · refine ⟨ps, ?_, fun p => ⟨.inl, fun z => z.elim id fun e => e ▸ h⟩, Nat.le_succ _⟩
    rw [decide_eq_true h] at hv
    unfold putK
    rw [valV_any, if_pos hv]
    refine (List.map_congr_left fun kv hkv => ?_).trans (List.map_id _)
    obtain ⟨p, hp, rfl⟩ := List.mem_map.mp hkv
    dsimp only [id]
    split <;> rfl
  · refine ⟨ps ++ [(f, o)], ?_, fun p => by simp, by simp⟩
    rw [decide_eq_false h] at hv
    rw [putK_new _ (Option.isNone_iff_eq_none.mp (by rw [← Option.not_isSome, hv]; rfl))]
    unfold insK
    rw [List.map_append]; rfl
def spInside (K : PySem.W.Frag) : Sp := fun vs H Q _ => ∃ (s : HSt) (f : Nat), vs = [.ref s.p, nint f] ∧ HoAt (CH K) H s ∧ s.rs.length ≤ 1000 ∧
  ∀ d H' ps, H d = none → Kp [] H H' → (∀ p, p ∈ ps ↔ p ∈ insP s.hs s.ts (s.rs.map rho) f) → H' d = some (.dT (insK ps)) → Q (.ref d) H'
section
variable {P : Program} {w : World} {K : PySem.W.Frag} {mg : Str → Option Value} {base : Heap}
theorem ok_inside (T : Tx K mg) {fd : FuncData} (F : Fun K "rooms_inside" "rooms_inside" s_rooms_inside (He.ga K "rooms_inside") fd) (m_standing : Met P w K mg base 1 (CH K) "standing" (spStanding (CH K))) (m_row : Met P w K mg base 4 (CH K) "row" (spRow (CH K))) (m_rooms : Met P w K mg base 5 (CH K) "rooms" (spRooms K)) : FnG P w K mg base 6 (He.ga K "rooms_inside") fd ["house", "frame"] (spInside K) := by
  refine FnG.of F sc_rooms_inside (fun vs H Q E h => ?_) (fun cdv A outer sh H vs Q E hr h => ?_)
  · obtain ⟨s, f, rfl, _⟩ := h; rfl
  · obtain ⟨s, f, rfl, ho, hl, q⟩ := h
    obtain ⟨dx, fs, e, ff, hf⟩ := ho.ob
    have wf := ho.wf
    have wl := wf.len
    have ws := wf.small
    refine ⟨_, pss_cons (ps_set (i := 2) sc_rooms_inside.nd rfl (by first | exact Or.inl rfl | exact Or.inr rfl) (pe_dnewT))
      (pss_cons (ps_for (passes_of rfl) rfl (kiL K (gm0 m_standing (hr.mono (by decide)) takes0 (pv 0))) (pg_name (i := 3) sc_rooms_inside.nd rfl (by first | exact Or.inl rfl | exact Or.inr rfl))
        (pss_one (ps_if (pt_cmpR (kin K) (pv 1) (gm m_row (hr.mono (by decide)) takes0 (pv 0) (pa_cons (pv 3) (pa_nil))) (by first | exact nomark _ | rfl)) (pss_one (ps_for (passes_of rfl) rfl (kiL K (gm m_rooms (hr.mono (by decide)) takes0 (pv 0) (pa_cons (pv 3) (pa_nil)))) (pg_name (i := 4) sc_rooms_inside.nd rfl (by first | exact Or.inl rfl | exact Or.inr rfl))
        (pss_one (ps_dput hr.hu (pv 2) (pv 4) (pe_bl) rfl)))) (pss_nil))))
      (pss_one (ps_ret (pv 2)))), ?_⟩
    refine fun d hd => ?_
    obtain ⟨H1, eH1⟩ : ∃ H1, H1 = upd H d (.dT []) := ⟨_, rfl⟩
    have k1 : Kp [] H H1 := eH1 ▸ Kp.refl.new hd
    have e1 : H1 d = some (.dT (insK [])) := by rw [eH1]; exact upd_same
    walk_at "nx"
    rw [← eH1]
    refine ⟨_, rfl, s.p, dx, fs, rfl, k1 _ _ e (by simp), ff.no _ (by decide +kernel), s.p, s.h, s.t, s.hs, s.ts, rfl, (ho.kp0 k1).fr, fun l H2 hl2 k2 el => ?_⟩
    have nld : l ≠ d := (ne_of_none e1 hl2).symm
    refine ⟨l, rfl, ⟨_, SqL.of el⟩, for_list (K := K) (a := l) (xs := (stand s.ts).map nint) (fun i σ H' => ∃ v3 v4, σ = [some (.ref s.p), some (nint f), some (.ref d), v3, v4] ∧ Kp [] H H' ∧ H' l = some (.lst ((stand s.ts).map nint)) ∧
      ∃ ps, H' d = some (.dT (insK ps)) ∧ ps.length ≤ 1000 * i ∧ ∀ p, p ∈ ps ↔ MIn s f ((stand s.ts).take i) p)
      ⟨_, _, rfl, k1.trans k2, el, [], k2 _ _ e1 (by simp), by simp, fun p => ⟨fun h => (by cases h), fun ⟨r, _, h, _⟩ => (by cases h)⟩⟩ (fun i σ H' _ ⟨_, _, _, _, z, _⟩ => SqL.of z) ?_ ?_⟩
    · rintro i x σ H' hx ⟨v3, v4, rfl, k, el', ps, ed, lp, hp⟩
      rw [List.getElem?_map] at hx
      obtain ⟨g, hg, rfl⟩ := Option.map_eq_some_iff.mp hx
      have hup : s.ts[g]? = some none := mem_stand.mp (List.mem_of_getElem? hg)
      have hgl : g < s.hs.length := by have := (List.getElem?_eq_some_iff.mp hup).1; omega
      have ho' := ho.kp0 k
      have etk : (stand s.ts).take (i + 1) = (stand s.ts).take i ++ [g] := by
        obtain ⟨hi, eg⟩ := List.getElem?_eq_some_iff.mp hg
        rw [List.take_succ_eq_append_getElem hi, eg]
      have hi100 : i ≤ 101 := by
        have h1 := (List.getElem?_eq_some_iff.mp hg).1
        have h2 := stand_len s.ts
        omega
      refine ⟨_, rfl, _, rfl, s.p, dx, fs, rfl, k _ _ e (by simp), ff.no _ (by decide +kernel), _, rfl, s.p, s.h, s.t, s.hs, s.ts, g, rfl, ho'.fr, hgl, fun l2 H3 hl3 k3 el3 => ⟨l2, _, rfl, .inl (SqL.of el3), rfl, flat_nint _, _, rfl, ?_⟩⟩
      show if inV (.int (f : Int)) ((rowW s.hs g).map nint) = true then _ else _
      rw [inV_nint]
      have k03 := k.trans k3
      have el'3 := k3 _ _ el' (by simp)
      have ed3 := k3 _ _ ed (by simp)
      by_cases hin : f ∈ rowW s.hs g
      · rw [decide_eq_true hin]
        have ho3 := ho.kp0 k03
        refine iteT ⟨_, rfl, s.p, dx, fs, rfl, k03 _ _ e (by simp), ff.no _ (by decide +kernel), _, rfl, s, g, rfl, ho3, hup, fun l4 H4 hl4 k4 el4 => ?_⟩
        have k04 := k03.trans k4
        have dl4 : d ≠ l4 := ne_of_none ed3 hl4
        refine ⟨l4, rfl, ⟨_, SqL.of el4⟩, for_list (K := K) (a := l4) (xs := (s.giv g).map fun r => V.ref r.w) (fun j σ H' => ∃ v4, σ = [some (.ref s.p), some (nint f), some (.ref d), some (nint g), v4] ∧ Kp [] H H' ∧ H' l = some (.lst ((stand s.ts).map nint)) ∧ H' l4 = some (.lst ((s.giv g).map fun r => V.ref r.w)) ∧
          ∃ ps, H' d = some (.dT (insK ps)) ∧ ps.length ≤ 1000 * i + j ∧ ∀ p, p ∈ ps ↔ MIn s f ((stand s.ts).take i) p ∨ ∃ r ∈ (s.giv g).take j, p = (r.f, r.o))
          ⟨_, rfl, k04, k4 _ _ el'3 (by simp), el4, ps, k4 _ _ ed3 (by simp), by omega, fun p => ?_⟩ (fun j σ H' _ ⟨_, _, _, _, z, _⟩ => SqL.of z) ?_ ?_⟩
        · rw [hp]; exact ⟨.inl, fun z => z.elim id fun ⟨r, h, _⟩ => by cases h⟩
        · rintro j x σ H5 hx ⟨v4, rfl, k5, el5, el45, ps5, ed5, lp5, hp5⟩
          rw [List.getElem?_map] at hx
          obtain ⟨r, hr2, rfl⟩ := Option.map_eq_some_iff.mp hx
          have hrm := mem_giv.mp (List.mem_of_getElem? hr2)
          have ho5 := ho.kp0 k5
          obtain ⟨qs, eqs, hqs, lqs⟩ := putK_ins ps5 r.f r.o
          have hj1 := (List.getElem?_eq_some_iff.mp hr2).1
          have hj2 : (s.giv g).length ≤ s.rs.length := List.length_filter_le _ _
          have big : (200000 : Nat) < sizeLine := by decide
          refine ⟨_, rfl, _, rfl, d, _, rfl, DPut.t (k := [.inl (r.f : Int), .inl (r.o : Int)]) ed5 (ho5.wl r hrm.1) (by unfold insK; rw [List.length_map]; omega), ?_⟩
          have et5 : (s.giv g).take (j + 1) = (s.giv g).take j ++ [r] := by
            obtain ⟨hi, eg⟩ := List.getElem?_eq_some_iff.mp hr2
            rw [List.take_succ_eq_append_getElem hi, eg]
          have nld5 : l ≠ d := ne_of el5 ed5 (fun z => by cases z)
          have nl45 : l4 ≠ d := ne_of el45 ed5 (fun z => by cases z)
          refine ⟨_, rfl, fun b o eb hb => (upd_ne (ne_of_none eb hd)).trans (k5 b o eb hb), (upd_ne nld5).trans el5, (upd_ne nl45).trans el45, qs, by rw [upd_same, eqs], by omega, fun p => ?_⟩
          rw [hqs, hp5, et5]
          constructor
          · rintro ((z | ⟨r', h1, h2⟩) | z)
            · exact .inl z
            · exact .inr ⟨r', List.mem_append_left _ h1, h2⟩
            · exact .inr ⟨r, by simp, z⟩
          · rintro (z | ⟨r', h1, h2⟩)
            · exact .inl (.inl z)
            · rcases List.mem_append.mp h1 with z | z
              · exact .inl (.inr ⟨r', z, h2⟩)
              · rw [List.mem_singleton] at z; rw [z] at h2; exact .inr h2
        · rintro σ H5 ⟨v4, rfl, k5, el5, _, ps5, ed5, lp5, hp5⟩
          have hj2 : (s.giv g).length ≤ s.rs.length := List.length_filter_le _ _
          rw [List.length_map] at lp5 hp5
          refine ⟨_, _, rfl, k5, el5, ps5, ed5, by omega, fun p => ?_⟩
          rw [hp5, List.take_of_length_le (Nat.le_refl _), etk]
          constructor
          · rintro (⟨r, h1, h2, h3⟩ | ⟨r, h1, h2⟩)
            · exact ⟨r, h1, List.mem_append_left _ h2, h3⟩
            · have hrm := mem_giv.mp h1
              exact ⟨r, hrm.1, by rw [hrm.2]; simp, by rw [hrm.2]; exact hin, h2⟩
          · rintro ⟨r, h1, h2, h3, h4⟩
            rcases List.mem_append.mp h2 with z | z
            · exact .inl ⟨r, h1, z, h3, h4⟩
            · rw [List.mem_singleton] at z
              exact .inr ⟨r, mem_giv.mpr ⟨h1, z⟩, h4⟩
      · rw [decide_eq_false hin]
        refine iteF ⟨_, _, rfl, k03, el'3, ps, ed3, by omega, fun p => ?_⟩
        rw [hp, etk]
        constructor
        · rintro ⟨r, h1, h2, h3⟩; exact ⟨r, h1, List.mem_append_left _ h2, h3⟩
        · rintro ⟨r, h1, h2, h3, h4⟩
          rcases List.mem_append.mp h2 with z | z
          · exact ⟨r, h1, z, h3, h4⟩
          · rw [List.mem_singleton] at z; rw [z] at h3; exact absurd h3 hin
    · rintro σ H' ⟨v3, v4, rfl, k, _, ps, ed, _, hp⟩
      refine ⟨_, rfl, q d H' ps hd k (fun p => ?_) ed⟩
      rw [hp, ← mIn_all, List.take_of_length_le (by simp)]
end

end Lw
namespace Lw
open PySem PySem.Spec L2 FG
open PyProof.Rows hiding St
/-! ### all steps -/
theorem paired_app {α β : Type} {F : α → β → Prop} : ∀ {xs us : List α} {ys vs : List β}, Paired F xs ys → Paired F us vs → Paired F (xs ++ us) (ys ++ vs)
  | _, _, _, _, .nil, b => b
  | _, _, _, _, .cons a r, b => .cons a (paired_app r b)
/-- a list made longer by another -/
theorem StL.ext {K : PySem.W.Frag} {H : Hp} {l b : Addr} {ds es : List St0} (x : StL K H l ds) (y : StL K H b es) :
    ∃ ts ws, H l = some (.lst ts) ∧ H b = some (.lst ws) ∧ ts.length = ds.length ∧ ws.length = es.length ∧ StL K (upd H l (.lst (ts ++ ws))) l (ds ++ es) := by
  obtain ⟨ps, e, h⟩ := x
  obtain ⟨qs, e2, h2⟩ := y
  have t : TKq H (upd H l (.lst (ps.map V.ref ++ qs.map V.ref))) := tkq_upd e
  exact ⟨_, _, e, e2, by rw [List.length_map]; exact Paired.length h, by rw [List.length_map]; exact Paired.length h2, ps ++ qs, by rw [upd_same, List.map_append], paired_app (Paired.mapP h fun p s z => z.tk t) (Paired.mapP h2 fun p s z => z.tk t)⟩
theorem roomsD_app (vd : V → PyData) (ps : List (Nat × Nat)) (l m : List Tr) : roomsD vd ps (l ++ m) = roomsD vd ps l ++ roomsD vd ps m := by
  unfold roomsD
  rw [List.filter_append, List.flatMap_append]
theorem roomsD_one (vd : V → PyData) (ps : List (Nat × Nat)) (t : Tr) : roomsD vd ps [t] = if (t.1, t.2.1) ∈ ps then [] else cellsD vd ps t t.2.2.length := by
  unfold roomsD
  rw [List.filter_cons]
  by_cases h : (t.1, t.2.1) ∈ ps
  · rw [if_pos h, if_neg (fun z => (of_decide_eq_true z) h)]; rfl
  · rw [if_neg h, if_pos (decide_eq_true h)]
    show cellsD vd ps t t.2.2.length ++ [] = _
    rw [List.append_nil]
theorem roomsD_len (vd : V → PyData) (ps : List (Nat × Nat)) : ∀ {l : List Tr}, (∀ t ∈ l, t.2.2.length ≤ 6) → (roomsD vd ps l).length ≤ 6 * l.length
  | [], _ => Nat.zero_le _
  | t :: l, h => by
    have ih := roomsD_len vd ps (l := l) fun u hu => h u (by simp [hu])
    have h1 := h t (by simp)
    have h2 := cellsD_len vd ps t t.2.2.length
    have e : roomsD vd ps (t :: l) = roomsD vd ps [t] ++ roomsD vd ps l := roomsD_app vd ps [t] l
    have h3 : (roomsD vd ps [t]).length ≤ 6 := by
      unfold roomsD
      rw [List.filter_cons]
      split
      · show ((cellsD vd ps t t.2.2.length) ++ []).length ≤ 6
        rw [List.append_nil]; omega
      · exact Nat.zero_le _
    rw [e, List.length_append, List.length_cons]; omega
theorem handD_len (vd : V → PyData) (ps : List (Nat × Nat)) (kvs : List (L2.Key × V)) : (handD vd ps kvs).length ≤ kvs.length := by
  unfold handD
  rw [List.length_map]; exact List.length_filter_le _ _
theorem hand_yes {vd : V → PyData} {ps : List (Nat × Nat)} {kvs : List (L2.Key × V)} {i : Nat} {p : L2.Key × V} (h : kvs[i]? = some p) (hb : inB ps (vd p.2) = true) : handD vd ps (kvs.take (i + 1)) = handD vd ps (kvs.take i) ++ [.hand p.1 p.2] :=
  more_yes (fun p : L2.Key × V => St0.hand p.1 p.2) (fun p => inB ps (vd p.2)) h hb
theorem hand_no {vd : V → PyData} {ps : List (Nat × Nat)} {kvs : List (L2.Key × V)} {i : Nat} {p : L2.Key × V} (h : kvs[i]? = some p) (hb : inB ps (vd p.2) = false) : handD vd ps (kvs.take (i + 1)) = handD vd ps (kvs.take i) :=
  more_no (fun p : L2.Key × V => St0.hand p.1 p.2) (fun p => inB ps (vd p.2)) h hb
theorem flat_len (R : List Tr) (n : Nat) (h : R.length ≤ n) : ∀ gs : List Nat, (gs.flatMap (gv R)).length ≤ n * gs.length
  | [] => Nat.zero_le _
  | g :: gs => by
    have h1 : (gv R g).length ≤ R.length := List.length_filter_le _ _
    have ih := flat_len R n h gs
    rw [List.flatMap_cons, List.length_append, List.length_cons, Nat.mul_add]; omega
theorem giv_gv (s : HSt) (g : Nat) : (s.giv g).map rho = gv (s.rs.map rho) g := by
  unfold gv HSt.giv
  rw [List.filter_map]; rfl
def spStepsIn (K : PySem.W.Frag) : Sp := fun vs H Q _ => ∃ (s : HSt) (d a : Addr) (kvs : List (L2.Key × V)) (ps : List (Nat × Nat)) (vd : V → PyData), vs = [.ref s.p, .ref d, .ref a] ∧ HoAt (CH K) H s ∧ s.rs.length ≤ 1000 ∧ H d = some (.dK kvs) ∧ kvs.length ≤ 100 ∧ d ∉ s.foot ∧
  H a = some (.dT (insK ps)) ∧ (∀ p ∈ kvs, Vd H p.2 (vd p.2)) ∧ (∀ r ∈ s.here, ∀ v ∈ r.cells, Vd H v (vd v)) ∧ ∀ l H', H l = none → Kp [] H H' → StL K H' l (stepsD vd ps kvs (allR s.ts (s.rs.map rho))) → Q (.ref l) H'
section
variable {P : Program} {w : World} {K : PySem.W.Frag} {mg : Str → Option Value} {base : Heap}
theorem ok_sin (T : Tx K mg) {fd : FuncData} (F : Fun K "steps_in" "steps_in" s_steps_in (He.ga K "steps_in") fd) (m_standing : Met P w K mg base 1 (CH K) "standing" (spStanding (CH K))) (m_rooms : Met P w K mg base 5 (CH K) "rooms" (spRooms K)) (c_steps_from : Cal P w K mg base 5 "steps_from" (spStepsFrom K)) : FnG P w K mg base 6 (He.ga K "steps_in") fd ["house", "hands", "inner"] (spStepsIn K) := by
  obtain ⟨tM, hg_HAND⟩ := T.i_HAND
  refine FnG.of F sc_steps_in (fun vs H Q E h => ?_) (fun cdv A outer sh H vs Q E hr h => ?_)
  · obtain ⟨s, d, a, kvs, ps, vd, rfl, _⟩ := h; rfl
  · obtain ⟨s, d, a, kvs, ps, vd, rfl, ho, hl, ed, hk, nd, ea, hkv, hcv, q⟩ := h
    obtain ⟨dx, fs, e, ff, hf⟩ := ho.ob
    have wf := ho.wf
    have wl := wf.len
    have ws := wf.small
    refine ⟨_, pss_cons (ps_lock (ps_setLc (i := 3) (own := [("name", 4), ("value", 5)]) (g := gTup K 2 (gCons (gName 4) (gCons (gName 5) (gNil)))) rfl sc_steps_in.nd rfl rfl (sw_true rfl rfl rfl (by decide +kernel)) (pi_items (pv 1)) (blkOk_by (own := [("name", 4), ("value", 5)]) (N := ["house", "hands", "inner", "found", "name", "value", "frame", "holder"]) (sc := defScope s_steps_in) (by decide +kernel)) (fun _ _ _ _ _ => by exact kgT K rfl (pgs_cons (pg_name (i := 4) sc_steps_in.nd rfl (by first | exact Or.inl rfl | exact Or.inr rfl)) (pgs_cons (pg_name (i := 5) sc_steps_in.nd rfl (by first | exact Or.inl rfl | exact Or.inr rfl)) (pgs_nil)))) (fun _ _ _ _ _ => by exact pts_one (pt_cmp (pc_dinA hr.u65 (pv 5) (pv 2)))) (fun _ _ _ _ _ => by exact pe_tup (pa_cons (pe_glob (v := .str "hand") rfl hg_HAND ⟨_, rfl⟩) (pa_cons (pv 4) (pa_cons (pv 5) (pa_nil)))))))
      (pss_cons (ps_for (passes_of rfl) rfl (kiL K (gm0 m_standing (hr.mono (by decide)) takes0 (pv 0))) (pg_name (i := 6) sc_steps_in.nd rfl (by first | exact Or.inl rfl | exact Or.inr rfl))
        (pss_one (ps_for (passes_of rfl) rfl (kiL K (gm m_rooms (hr.mono (by decide)) takes0 (pv 0) (pa_cons (pv 6) (pa_nil)))) (pg_name (i := 7) sc_steps_in.nd rfl (by first | exact Or.inl rfl | exact Or.inr rfl))
        (pss_one (ps_if (pt_cmp (pc_dnotin hr.hu (pv 7) (pv 2))) (pss_one (ps_expr (kbm K PySem.F.plainAttrs_list PySem.F.slot_list_extend PySem.F.type_list_extend mt_extend (pv 3) (pa_cons (gc c_steps_from (hr.mono (by decide)) takes0 (pa_cons (pv 0) (pa_cons (pv 7) (pa_cons (pv 2) (pa_nil))))) (pa_nil))))) (pss_nil))))))
      (pss_one (ps_ret (pv 3)))), ?_⟩
    have nda : d ≠ a := ne_of ed ea (fun z => by cases z)
    refine cut_seq (fun σ' H' => ∃ l, σ' = [some (.ref s.p), some (.ref d), some (.ref a), some (.ref l), none, none, none, none] ∧ H l = none ∧ Kp [] H H' ∧ StL K H' l (handD vd ps kvs)) (fun nx q' => ?_) ?_
    · refine ⟨d, _, ed, trivial, fun od => ?_⟩
      obtain ⟨H1, eH1⟩ : ∃ H1, H1 = upd H d (.frz od (.dK kvs)) := ⟨_, rfl⟩
      have f1 : H1 d = some (.frz od (.dK kvs)) := by rw [eH1]; exact upd_same
      have u1 : ∀ b o, H b = some o → b ≠ d → H1 b = some o := fun b o eb nb => by rw [eH1]; exact (upd_ne nb).trans eb
      have n1 : ∀ b, H1 b = none → H b = none := fun b h => by
        cases e : H b with
        | none => rfl
        | some o =>
          by_cases hb : b = d
          · rw [hb, f1] at h; cases h
          · rw [u1 b o e hb] at h; cases h
      walk_at "nx"
      rw [← eH1]
      refine ⟨_, rfl, d, od, kvs, rfl, f1, fun D hD => ?_⟩
      have nDd : D ≠ d := fun z => by rw [z, f1] at hD; cases hD
      refine lc_it walk_items (fun i H' => (∀ b o, H b = some o → b ≠ d → H' b = some o) ∧ H' d = some (.frz od (.dK kvs)) ∧ StL K H' D (handD vd ps (kvs.take i))) ⟨fun b o eb nb => (upd_ne (ne_of_none (u1 b o eb nb) hD)).trans (u1 b o eb nb), (upd_ne nDd.symm).trans f1, StL.zero⟩ (fun i H' _ z => z.2.1) ?_ ?_
      · rintro i x H3 H4 hi ⟨k3, e3, st⟩ ⟨T', x1, x2, rfl, hT, rfl, ex1, ex2⟩
        have hkv2 : kvs[i]? = some kvs[i] := List.getElem?_eq_getElem hi
        generalize kvs[i] = p at hkv2
        have hpm := List.mem_of_getElem? hkv2
        obtain rfl : kV p.1 = x1 := Option.some.inj ((by rw [hkv2]; rfl : some (kV p.1) = kvs[i]?.map fun kv => kV kv.1).trans ex1)
        obtain rfl : p.2 = x2 := Option.some.inj ((by rw [hkv2]; rfl : some p.2 = kvs[i]?.map Prod.snd).trans ex2)
        have kT := (Kp.refl (S := []) (H := H3)).new (o := .tup [kV p.1, p.2]) hT
        have eT : upd H3 T' (.tup [kV p.1, p.2]) T' = some (.tup [kV p.1, p.2]) := upd_same
        generalize upd H3 T' (.tup [kV p.1, p.2]) = H4 at *
        have k4 : ∀ b o, H b = some o → b ≠ d → H4 b = some o := fun b o eb nb => kT _ _ (k3 b o eb nb) (by simp)
        have t4 : TKq H H4 := fun b xs eb => k4 b _ eb fun z => by rw [z, ed] at eb; cases eb
        have vd4 : Vd H4 p.2 (vd p.2) := (hkv p hpm).tk t4
        obtain ⟨o, dg, eo⟩ := vd4.get (k4 _ _ ea nda.symm)
        refine ⟨T', _, rfl, SqT.of eT, rfl, _, _, rfl, _, _, rfl, rfl, ?_⟩
        refine ⟨rfl, _, rfl, _, rfl, a, o, rfl, dg, ?_⟩
        rw [eo]
        cases hb : inB ps (vd p.2) with
        | true =>
          refine ⟨_, rfl, ?_⟩
          refine ⟨_, rfl, _, rfl, (by show 3 ≤ sizeLine; decide), fun t hp => ?_⟩
          have kt := (Kp.refl (S := []) (H := H4)).new (o := .tup [.str "hand", kV p.1, p.2]) hp
          obtain ⟨ts, e5, lt, st5⟩ := (st.kp kT).snoc hp rfl (dp_hand (k := p.1) upd_same (vd4.tk kt.tkq))
          refine ⟨ts, e5, ?_, fun b o eb nb => ?_, ?_, ?_⟩
          · have h1 := handD_len vd ps (kvs.take i)
            have h2 := List.length_take_le i kvs
            rw [lt]; exact sz_lt (by omega)
          · have eb1 := u1 b o eb nb
            exact (upd_ne (ne_of_none eb1 hD)).trans (kt _ _ (k4 b o eb nb) (by simp))
          · exact (upd_ne nDd.symm).trans (kt _ _ (kT _ _ e3 (by simp)) (by simp))
          · rw [hand_yes hkv2 hb]; exact st5
        | false =>
          refine ⟨_, rfl, ?_⟩
          refine ⟨k4, kT _ _ e3 (by simp), ?_⟩
          rw [hand_no hkv2 hb]
          exact st.kp kT
      · rintro H' ⟨k3, e3, ts, ets, dts⟩
        rw [List.take_of_length_le (Nat.le_refl _)] at dts
        refine ⟨e3, q' _ _ ⟨D, rfl, n1 D hD, fun b o eb _ => ?_, ts, (upd_ne nDd).trans ets, Paired.mapP dts fun p s z => z.tk fun b xs eb => (upd_ne fun z => by rw [z, e3] at eb; cases eb).trans eb⟩⟩
        by_cases nb : b = d
        · rw [nb, upd_same]; rw [nb, ed] at eb; exact eb
        · exact (upd_ne nb).trans (k3 b o eb nb)
    · rintro σ' H1 ⟨l, rfl, hl0, k1, st⟩
      have slen := stand_len s.ts
      refine ⟨_, rfl, s.p, dx, fs, rfl, k1 _ _ e (by simp), ff.no _ (by decide +kernel), s.p, s.h, s.t, s.hs, s.ts, rfl, (ho.kp0 k1).fr, fun ls H2 hls k2 els => ?_⟩
      have nls : ls ≠ l := fun z => by obtain ⟨ts, e, _⟩ := st; rw [z, e] at hls; cases hls
      refine ⟨ls, rfl, ⟨_, SqL.of els⟩, for_list (K := K) (a := ls) (xs := (stand s.ts).map nint) (fun i σ H' => ∃ v6 v7, σ = [some (.ref s.p), some (.ref d), some (.ref a), some (.ref l), none, none, v6, v7] ∧ Kp [] H H' ∧ H' ls = some (.lst ((stand s.ts).map nint)) ∧
        StL K H' l (handD vd ps kvs ++ roomsD vd ps (((stand s.ts).take i).flatMap (gv (s.rs.map rho))))) ⟨_, _, rfl, k1.trans k2, els, by simpa [roomsD] using st.kp k2⟩ (fun i σ H' _ ⟨_, _, _, _, z, _⟩ => SqL.of z) ?_ ?_⟩
      · rintro i x σ H3 hx ⟨v6, v7, rfl, k3, e3, st3⟩
        rw [List.getElem?_map] at hx
        obtain ⟨g, hg, rfl⟩ := Option.map_eq_some_iff.mp hx
        have hup : s.ts[g]? = some none := mem_stand.mp (List.mem_of_getElem? hg)
        have hi9 := (List.getElem?_eq_some_iff.mp hg).1
        have ho3 := ho.kp0 k3
        have etk : (stand s.ts).take (i + 1) = (stand s.ts).take i ++ [g] := by
          obtain ⟨hi, eg⟩ := List.getElem?_eq_some_iff.mp hg
          rw [List.take_succ_eq_append_getElem hi, eg]
        refine ⟨_, rfl, s.p, dx, fs, rfl, k3 _ _ e (by simp), ff.no _ (by decide +kernel), _, rfl, s, g, rfl, ho3, hup, fun l4 H4 hl4 k4 el4 => ?_⟩
        have nl4 : l4 ≠ l := fun z => by obtain ⟨ts, e, _⟩ := st3; rw [z, e] at hl4; cases hl4
        refine ⟨l4, rfl, ⟨_, SqL.of el4⟩, for_list (K := K) (a := l4) (xs := (s.giv g).map fun r => V.ref r.w) (fun j σ H' => ∃ v7, σ = [some (.ref s.p), some (.ref d), some (.ref a), some (.ref l), none, none, some (nint g), v7] ∧ Kp [] H H' ∧ H' ls = some (.lst ((stand s.ts).map nint)) ∧ H' l4 = some (.lst ((s.giv g).map fun r => V.ref r.w)) ∧
          StL K H' l (handD vd ps kvs ++ roomsD vd ps (((stand s.ts).take i).flatMap (gv (s.rs.map rho)) ++ ((s.giv g).take j).map rho))) ⟨_, rfl, k3.trans k4, k4 _ _ e3 (by simp), el4, by simpa using st3.kp k4⟩ (fun j σ H' _ ⟨_, _, _, _, z, _⟩ => SqL.of z) ?_ ?_⟩
        · rintro j x σ H5 hx ⟨v7, rfl, k5, e5, e45, st5⟩
          rw [List.getElem?_map] at hx
          obtain ⟨r, hr2, rfl⟩ := Option.map_eq_some_iff.mp hx
          have hrm := mem_giv.mp (List.mem_of_getElem? hr2)
          have hh : r ∈ s.here := mem_here hrm.1 (decide_eq_true (by rw [hrm.2]; exact hup))
          have ho5 := ho.kp0 k5
          have sz := ho.pl.sz r hrm.1
          have hj9 := (List.getElem?_eq_some_iff.mp hr2).1
          have hj2 : (s.giv g).length ≤ s.rs.length := List.length_filter_le _ _
          have et5 : ((s.giv g).take (j + 1)).map rho = ((s.giv g).take j).map rho ++ [rho r] := by
            obtain ⟨hi, eg⟩ := List.getElem?_eq_some_iff.mp hr2
            rw [List.take_succ_eq_append_getElem hi, eg, List.map_append]; rfl
          have e1 : roomsD vd ps [rho r] = if (r.f, r.o) ∈ ps then [] else cellsD vd ps (rho r) r.cells.length := by
            exact roomsD_one vd ps (rho r)
          refine ⟨_, rfl, _, rfl, a, _, rfl, DGet.t (k := [.inl (r.f : Int), .inl (r.o : Int)]) (k5 _ _ ea (by simp)) (ho5.wl r hrm.1), ?_⟩
          rw [insK_val]
          by_cases hin : (r.f, r.o) ∈ ps
          · rw [decide_eq_true hin]
            refine ⟨_, rfl, iteF ⟨_, rfl, k5, e5, e45, ?_⟩⟩
            rw [et5, ← List.append_assoc, roomsD_app, e1, if_pos hin, List.append_nil]
            exact st5
          · rw [decide_eq_false hin]
            have hlg : (((stand s.ts).take i).flatMap (gv (s.rs.map rho))).length ≤ 1000 * 101 := by
              have h1 := flat_len (s.rs.map rho) 1000 (by rw [List.length_map]; exact hl) ((stand s.ts).take i)
              have h2 := List.length_take_le i (stand s.ts)
              have h3 : 1000 * ((stand s.ts).take i).length ≤ 1000 * 101 := Nat.mul_le_mul_left _ (by omega)
              omega
            have hl6 : ∀ t ∈ ((stand s.ts).take i).flatMap (gv (s.rs.map rho)) ++ ((s.giv g).take j).map rho, t.2.2.length ≤ 6 := by
              intro t ht
              have : ∃ r ∈ s.rs, rho r = t := by
                rcases List.mem_append.mp ht with z | z
                · obtain ⟨g', _, z⟩ := List.mem_flatMap.mp z
                  obtain ⟨r, hr, e⟩ := List.mem_map.mp (List.mem_filter.mp z).1
                  exact ⟨r, hr, e⟩
                · obtain ⟨r, hr, e⟩ := List.mem_map.mp z
                  exact ⟨r, (mem_giv.mp (List.mem_of_mem_take hr)).1, e⟩
              obtain ⟨r, hr, rfl⟩ := this
              exact (ho.pl.sz r hr).2
            have hlr := roomsD_len vd ps hl6
            rw [List.length_append, List.length_map] at hlr
            have hlt := List.length_take_le j (s.giv g)
            have hlc := cellsD_len vd ps (rho r) r.cells.length
            have hlh := handD_len vd ps kvs
            obtain ⟨ts5, e5l, _⟩ := id st5
            refine ⟨_, rfl, iteT ⟨_, rfl, .inl ⟨rfl, _, SqL.of e5l⟩, _, rfl, _, rfl, _, rfl, s, r, r.w, a, ps, vd, rfl, ho5, hh, ho5.wl r hrm.1, k5 _ _ ea (by simp), fun v hv => (hcv r hh v hv).tk k5.tkq, fun b H6 hb k6 stb => ?_⟩⟩
            obtain ⟨ts, zs, e1', e2', l1, l2, st6⟩ := (st5.kp k6).ext stb
            refine ⟨l, b, ts, zs, rfl, rfl, e1', e2', ?_, ?_⟩
            · rw [l1, l2, List.length_append]
              have big : (1000000 : Nat) ≤ sizeLine := by decide
              omega
            · have k06 := k5.trans k6
              have nl0 : ∀ {b o}, H b = some o → b ≠ l := fun eb => ne_of_none eb hl0
              refine ⟨_, rfl, fun b o eb hb' => (upd_ne (nl0 eb)).trans (k06 b o eb hb'), (upd_ne nls).trans (k6 _ _ e5 (by simp)), (upd_ne nl4).trans (k6 _ _ e45 (by simp)), ?_⟩
              rw [et5, ← List.append_assoc, roomsD_app, e1, if_neg hin, ← List.append_assoc]
              exact st6
        · rintro σ H5 ⟨v7, rfl, k5, e5, _, st5⟩
          refine ⟨_, _, rfl, k5, e5, ?_⟩
          rw [List.length_map, List.take_of_length_le (Nat.le_refl _), giv_gv] at st5
          rw [etk, List.flatMap_append]
          simpa using st5
      · rintro σ H3 ⟨v6, v7, rfl, k3, _, st3⟩
        rw [List.length_map, List.take_of_length_le (Nat.le_refl _)] at st3
        exact ⟨_, rfl, q l H3 hl0 k3 st3⟩
end

end Lw
namespace Lw
open PySem PySem.Spec L2 FG
open PyProof.Rows hiding St
/-! ### hands; ways in -/
structure HOk (H : Hp) (s : HSt) (d : Addr) (kvs : List (L2.Key × V)) : Prop where
  e : H d = some (.dK kvs)
  nf : d ∉ s.foot
  nm : ∀ p ∈ kvs, ∃ z : Str, p.1 = .inr z ∧ nameS z = true
  vo : ∀ p ∈ kvs, VOk H s.rs p.2
  ln : kvs.length ≤ 41
theorem VOk.tk {H H' : Hp} {rs : List Rm} {v : V} (h : VOk H rs v) (t : TKq H H') : VOk H' rs v := by
  rcases h with e | e | ⟨r, hr, q, e, eq⟩
  · exact .inl e
  · exact .inr (.inl e)
  · exact .inr (.inr ⟨r, hr, q, e, t _ _ eq⟩)
theorem HOk.kp {H H' : Hp} {s : HSt} {d : Addr} {kvs : List (L2.Key × V)} (x : HOk H s d kvs) (k : Kp [] H H') : HOk H' s d kvs := ⟨k _ _ x.e (by simp), x.nf, x.nm, fun p hp => (x.vo p hp).tk k.tkq, x.ln⟩
theorem tk_frz {H : Hp} {d : Addr} {u v : HO} (e : H d = some u) (n : ∀ xs, u ≠ .tup xs) : TKq H (upd H d v) := fun b xs eb => (upd_ne fun z => by rw [z, e] at eb; exact n xs (Option.some.inj eb)).trans eb
theorem kp_upd {H : Hp} {d : Addr} {v : HO} : Kp [d] H (upd H d v) := fun b o e n => (upd_ne (by simpa using n)).trans e
def spNeedEnd (K : PySem.W.Frag) : Sp := fun vs H Q _ => ∃ (s : HSt) (f : Nat) (d : Addr) (kvs : List (L2.Key × V)), vs = [.ref s.p, nint f, .ref d] ∧ HoAt (CH K) H s ∧ s.ts[f]? = some none ∧ 0 < f ∧ HOk H s d kvs ∧ ∀ H', Kp [] H H' → Q .non H'
def spWaysIn (K : PySem.W.Frag) : Sp := fun vs H Q _ => ∃ (s : HSt) (f : Nat) (d : Addr) (kvs : List (L2.Key × V)) (vd : V → PyData), vs = [.ref s.p, nint f, .ref d] ∧ HoAt (CH K) H s ∧ s.rs.length ≤ 1000 ∧ s.ts[f]? = some none ∧ 0 < f ∧ HOk H s d kvs ∧
  (∀ p ∈ kvs, Vd H p.2 (vd p.2)) ∧ (∀ r ∈ s.here, ∀ v ∈ r.cells, Vd H v (vd v)) ∧ ∀ l H' ps, H l = none → Kp [] H H' → (∀ p, p ∈ ps ↔ p ∈ insP s.hs s.ts (s.rs.map rho) f) → StL K H' l (stepsD vd ps kvs (allR s.ts (s.rs.map rho))) → Q (.ref l) H'
section
variable {P : Program} {w : World} {K : PySem.W.Frag} {mg : Str → Option Value} {base : Heap}
theorem ok_needend (T : Tx K mg) {fd : FuncData} (F : Fun K "need_ending" "need_ending" s_need_ending (He.ga K "need_ending") fd) (m_need_standing : Met P w K mg base 4 (CH K) "need_standing" (spStd (CH K))) (c_is_name : Cal P w K mg base 1 "is_name" spName) (m_is_value : Met P w K mg base 3 (CH K) "is_value" (spIsVal K)) : FnG P w K mg base 5 (He.ga K "need_ending") fd ["house", "frame", "hands"] (spNeedEnd K) := by
  refine FnG.of F sc_need_ending (fun vs H Q E h => ?_) (fun cdv A outer sh H vs Q E hr h => ?_)
  · obtain ⟨s, f, d, kvs, rfl, _⟩ := h; rfl
  · obtain ⟨s, f, d, kvs, rfl, ho, hup, hf0, hd, q⟩ := h
    obtain ⟨dx, fs, e, ff, hf⟩ := ho.ob
    refine ⟨_, pss_cons (ps_expr (gm m_need_standing (hr.mono (by decide)) takes0 (pv 0) (pa_cons (pv 1) (pa_nil))))
      (pss_cons (ps_if (pt_cmpR op_eq (pv 1) (pe_int) (by first | exact nomark _ | rfl)) (pss_one (ps_never)) (pss_nil))
      (pss_cons (ps_if (pt_not (pt_val (pe_callB (kisi K) (by rfl) T.z_isinstance (by decide +kernel) (pa_cons (pv 2) (pa_cons (pe_bltn (v := .ty "dict") (by rfl) T.z_dict (by decide +kernel) rfl) (pa_nil)))))) (pss_one (ps_never)) (pss_nil))
      (pss_one (ps_if (pt_not (pt_val (pe_callB (kall K) (by rfl) T.z_all (by decide +kernel) (pa_cons (pe_lock (pe_lc (own := [("name", 3), ("value", 4)]) (g := gTup K 2 (gCons (gName 3) (gCons (gName 4) (gNil)))) (tt := tYes) rfl sc_need_ending.nd (pi_items (pv 2)) (blkOk_by (own := [("name", 3), ("value", 4)]) (N := ["house", "frame", "hands", "name", "value"]) (sc := defScope s_need_ending) (by decide +kernel)) (fun _ _ _ _ _ => by exact kgT K rfl (pgs_cons (pg_name (i := 3) sc_need_ending.nd rfl (by first | exact Or.inl rfl | exact Or.inr rfl)) (pgs_cons (pg_name (i := 4) sc_need_ending.nd rfl (by first | exact Or.inl rfl | exact Or.inr rfl)) (pgs_nil)))) (fun _ _ _ _ _ => by exact pts_nil) (fun _ _ _ _ _ => by exact pe_and (gc c_is_name (hr.mono (by decide)) takes0 (pa_cons (pv 3) (pa_nil))) (pe_one (gm m_is_value (hr.mono (by decide)) takes0 (pv 0) (pa_cons (pv 4) (pa_nil))))))) (pa_nil))))) (pss_one (ps_never)) (pss_nil))))), ?_⟩
    refine ⟨_, rfl, s.p, dx, fs, rfl, e, ff.no _ (by decide +kernel), _, rfl, s.p, s.h, s.t, s.hs, s.ts, f, rfl, ho.fr, hup, ?_⟩
    refine ⟨_, rfl, rfl, _, rfl, ?_⟩
    rw [decide_eq_false (fun z => by injection z with z; omega)]
    refine iteF ?_
    refine ⟨_, rfl, _, _, _, _, true, rfl, .ty _, .base (.dK hd.e), kit_ty rfl, _, rfl, iteF ?_⟩
    walk_at "nx"
    -- all of them
    refine ⟨d, _, hd.e, trivial, fun od => ?_⟩
    obtain ⟨H1, eH1⟩ : ∃ H1, H1 = upd H d (.frz od (.dK kvs)) := ⟨_, rfl⟩
    have f1 : H1 d = some (.frz od (.dK kvs)) := by rw [eH1]; exact upd_same
    have kd : Kp [d] H H1 := eH1 ▸ kp_upd
    have t1 : TKq H H1 := eH1 ▸ tk_frz hd.e fun _ z => by cases z
    walk_at "nx"
    rw [← eH1]
    have ho1 := ho.kp kd (fun a ha => by rw [List.mem_singleton] at ha; rw [ha]; exact hd.nf) (fun a ha xs z => by rw [List.mem_singleton] at ha; rw [ha, hd.e] at z; cases z)
    refine ⟨_, rfl, d, od, kvs, rfl, f1, fun D hD => ?_⟩
    have nDd : D ≠ d := fun z => by rw [z, f1] at hD; cases hD
    refine lc_it walk_items (fun i H' => Kp [] H1 H' ∧ ∃ bs : List Bool, H' D = some (.lst (bs.map V.bl)) ∧ bs.length = i ∧ ∀ b ∈ bs, b = true) ⟨Kp.refl.new hD, [], upd_same, rfl, fun b z => by cases z⟩ (fun i H' _ z => z.1 _ _ f1 (by simp)) ?_ ?_
    · rintro i x H3 H4 hi ⟨k3, bs, eD, lb, hb⟩ ⟨T', x1, x2, rfl, hT, rfl, ex1, ex2⟩
      have hkv2 : kvs[i]? = some kvs[i] := List.getElem?_eq_getElem hi
      generalize kvs[i] = p at hkv2
      have hpm := List.mem_of_getElem? hkv2
      obtain rfl : kV p.1 = x1 := Option.some.inj ((by rw [hkv2]; rfl : some (kV p.1) = kvs[i]?.map fun kv => kV kv.1).trans ex1)
      obtain rfl : p.2 = x2 := Option.some.inj ((by rw [hkv2]; rfl : some p.2 = kvs[i]?.map Prod.snd).trans ex2)
      have kT := (Kp.refl (S := []) (H := H3)).new (o := .tup [kV p.1, p.2]) hT
      have eT : upd H3 T' (.tup [kV p.1, p.2]) T' = some (.tup [kV p.1, p.2]) := upd_same
      generalize upd H3 T' (.tup [kV p.1, p.2]) = H4 at *
      have k4 := k3.trans kT
      obtain ⟨z, ez, hz⟩ := hd.nm p hpm
      have hz6 := name_let hz
      refine ⟨T', _, rfl, SqT.of eT, rfl, _, _, rfl, _, _, rfl, rfl, ?_⟩
      have big : (6 : Nat) ≤ sizeLine := by decide
      refine ⟨rfl, _, rfl, kV p.1, rfl, by rw [ez]; exact .str z (by omega), fun H5 k5 => ⟨_, rfl, ?_⟩⟩
      rw [show nameV (kV p.1) = true by rw [ez]; exact hz]
      have k15 := k4.trans k5
      have ho5 := ho1.kp0 k15
      obtain ⟨dx5, fs5, e5, ff5, _⟩ := ho5.ob
      refine iteT ⟨_, rfl, s.p, dx5, fs5, rfl, e5, ff5.no _ (by decide +kernel), _, rfl, s, p.2, rfl, ho5, .inl ⟨(hd.vo p hpm).kp fun a xs ea => k15 _ _ (t1 a xs ea) (by simp), fun H6 k6 => ?_⟩⟩
      refine ⟨_, k6 _ _ (k5 _ _ (kT _ _ eD (by simp)) (by simp)) (by simp), (by rw [List.length_map, lb]; have := hd.ln; exact sz_lt (by omega)), fun b o eb hb' => ?_, bs ++ [true], by rw [upd_same, List.map_append]; rfl, by rw [List.length_append, lb]; rfl, fun b z => ?_⟩
      · exact (upd_ne (ne_of_none eb hD)).trans ((k15.trans k6) b o eb hb')
      · rcases List.mem_append.mp z with z | z
        · exact hb b z
        · simpa using z
    · rintro H' ⟨k3, bs, eD, lb, hb⟩
      have e3 := k3 _ _ f1 (by simp)
      refine ⟨e3, D, bs, rfl, SqL.of ((upd_ne nDd).trans eD), ?_⟩
      rw [show bs.all id = true from List.all_eq_true.mpr fun b z => hb b z]
      refine ⟨_, rfl, iteF (q _ fun b o eb _ => ?_)⟩
      by_cases nb : b = d
      · rw [nb, upd_same]; rw [nb, hd.e] at eb; exact eb
      · exact (upd_ne nb).trans (k3 b o (kd b o eb (by simpa using nb)) (by simp))
end

end Lw
namespace Lw
open PySem PySem.Spec L2 FG
open PyProof.Rows hiding St
/-! ### the law's steps -/
def inW (x : WSt) (f : Nat) : List Rm := (allW x).filter fun r => decide (f ∈ rowW x.hs r.f)
theorem giv_gvW (x : WSt) (g : Nat) : (x.giv g).map rho = gv (x.rs.map rho) g := by
  unfold gv WSt.giv
  rw [List.filter_map]; rfl
theorem allW_rho (x : WSt) : (allW x).map rho = allR x.ts (x.rs.map rho) := by
  unfold allW allR
  rw [List.map_flatMap]
  congr 1
  exact funext fun g => giv_gvW x g
theorem inW_pk (x : WSt) (f : Nat) : (inW x f).map pk = insP x.hs x.ts (x.rs.map rho) f := by
  unfold insP inW
  rw [← allW_rho, List.filter_map, List.map_map]; rfl
theorem lay_ways (L : List Rm) : PyData.canLayAll0 (L.map fun r => wayD r.f r.o) = true ∧ PyData.depthAll (L.map fun r => wayD r.f r.o) ≤ 1 := by
  induction L with
  | nil => exact ⟨rfl, Nat.zero_le _⟩
  | cons r L ih =>
    refine ⟨?_, ?_⟩
    · simp only [List.map_cons, PyData.canLayAll0, wayD, pnint, PyData.canLay0, Bool.true_and]; exact ih.1
    · have h1 : PyData.depth (wayD r.f r.o) ≤ 1 := by simp only [wayD, pnint, PyData.depth, PyData.depthAll]; omega
      have h2 := ih.2
      simp only [List.map_cons, PyData.depthAll]; omega
theorem shaped_ways (L : List Rm) : SeqAt.shaped (.list (L.map fun r => wayD r.f r.o)) = true := by
  obtain ⟨a, b⟩ := lay_ways L
  unfold SeqAt.shaped
  rw [Bool.and_eq_true, decide_eq_true_eq]
  exact ⟨by simp only [PyData.canLay0]; exact a, by simp only [PyData.depth]; omega⟩
theorem dp_ways {K : PySem.W.Frag} {H : Hp} : ∀ {L : List Rm}, (∀ r ∈ L, H r.w = some (.tup [.int (r.f : Int), .int (r.o : Int)])) → DpAll K H (L.map fun r => V.ref r.w) (L.map fun r => wayD r.f r.o)
  | [], _ => .nil
  | r :: L, h => .cons (dp_way (h r (by simp))) (dp_ways fun q hq => h q (by simp [hq]))
theorem any_inW (x : WSt) (f : Nat) (d : PyData) : (((inW x f).map fun r => wayD r.f r.o).any fun z => PyData.eqv z d) = inB (insP x.hs x.ts (x.rs.map rho) f) d := by
  rw [← inW_pk]
  unfold inB
  rw [List.map_map]; rfl
def spWInner : Sp := fun vs H Q _ => ∃ (x : WSt) (f : Nat), vs = [.ref x.m, nint f] ∧ WAt H x ∧ x.rs.length ≤ 1000 ∧ ∀ l H', H l = none → Kp [] H H' → H' l = some (.lst ((inW x f).map fun r => V.ref r.w)) → Q (.ref l) H'
def spWSteps (K : PySem.W.Frag) : Sp := fun vs H Q _ => ∃ (x : WSt) (f : Nat) (d : Addr) (kvs : List (L2.Key × V)) (vd : V → PyData), vs = [.ref x.m, nint f, .ref d] ∧ WAt H x ∧ x.rs.length ≤ 1000 ∧ (∀ r ∈ x.rs, r.cells.length ≤ 6) ∧ H d = some (.dK kvs) ∧ kvs.length ≤ 100 ∧ (kvs.map (·.1)).Nodup ∧ d ∉ x.foot ∧
  (∀ p ∈ kvs, Vd H p.2 (vd p.2)) ∧ (∀ r ∈ x.here, ∀ v ∈ r.cells, Vd H v (vd v)) ∧ ∀ l H', H l = none → Kp [] H H' → StL K H' l (stepsD vd (insP x.hs x.ts (x.rs.map rho) f) kvs (allR x.ts (x.rs.map rho))) → Q (.ref l) H'
section
variable {P : Program} {w : World} {K : PySem.W.Frag} {mg : Str → Option Value} {base : Heap}
theorem ok_winner (T : Tx K mg) {fd : FuncData} (F : Fun K "_law_inner" "_law_inner" s__law_inner (He.ga K "_law_inner") fd) (c__law_all_rooms : Cal P w K mg base 2 "_law_all_rooms" spWAll) (c__law_row : Cal P w K mg base 1 "_law_row" spWRow) : FnG P w K mg base 3 (He.ga K "_law_inner") fd ["_law_world_here", "_law_frame"] spWInner := by
  refine FnG.of F sc__law_inner (fun vs H Q E h => ?_) (fun cdv A outer sh H vs Q E hr h => ?_)
  · obtain ⟨x, f, rfl, _⟩ := h; rfl
  · obtain ⟨x, f, rfl, y, hl, q⟩ := h
    have al := allW_len x
    refine ⟨_, pss_one (ps_ret (pe_lc (own := [("_law_way", 2)]) (g := gName 2) rfl sc__law_inner.nd (kiL K (gc c__law_all_rooms (hr.mono (by decide)) takes0 (pa_cons (pv 0) (pa_nil)))) (blkOk_by (own := [("_law_way", 2)]) (N := ["_law_world_here", "_law_frame", "_law_way"]) (sc := defScope s__law_inner) (by decide +kernel)) (fun _ _ _ _ _ => pg_name (i := 2) sc__law_inner.nd rfl (by first | exact Or.inl rfl | exact Or.inr rfl)) (fun _ _ _ _ _ => by exact pts_one (pt_cmpR (kin K) (pv 1) (gc c__law_row (hr.mono (by decide)) takes0 (pa_cons (pv 0) (pa_cons (pe_ix (kixT K) (pv 2) (pe_int) (fun _ _ => rfl)) (pa_nil)))) (by first | exact nomark _ | rfl))) (fun _ _ _ _ _ => by exact pv 2))), ?_⟩
    refine ⟨_, rfl, x, rfl, y, hl, fun l H1 hl1 k1 el => ?_⟩
    refine ⟨l, rfl, ⟨_, SqL.of el⟩, fun D hD => ?_⟩
    refine lc_list (a := l) (xs := (allW x).map fun r => V.ref r.w) (fun i H' => Kp [] H1 H' ∧ H' D = some (.lst ((((allW x).take i).filter fun r => decide (f ∈ rowW x.hs r.f)).map fun r => V.ref r.w))) ⟨Kp.refl.new hD, upd_same⟩ (fun i H' _ z => SqL.of (z.1 _ _ el (by simp))) ?_ ?_
    · rintro i v H' hv ⟨k, eD⟩
      rw [List.getElem?_map] at hv
      obtain ⟨r, hr2, rfl⟩ := Option.map_eq_some_iff.mp hv
      have hm := List.mem_of_getElem? hr2
      have hh := mem_all.mp hm
      have hrs := x.sub.subset hh
      have hup := (mem_whr.mp hh).2
      have k2 := k1.trans k
      have y2 := y.kp0 k2
      have wl := y.wf.len
      have hi9 := (List.getElem?_eq_some_iff.mp hr2).1
      refine ⟨rfl, _, rfl, _, rfl, _, rfl, r.w, _, _, _, rfl, rfl, SqT.of (y2.wl r hrs), rfl, x, r.f, rfl, y2, by have := (List.getElem?_eq_some_iff.mp hup).1; omega, fun l3 H3 hl3 k3 el3 => ?_⟩
      refine ⟨l3, _, rfl, .inl (SqL.of el3), rfl, flat_nint _, _, rfl, ?_⟩
      show if inV (.int (f : Int)) ((rowW x.hs r.f).map nint) = true then _ else _
      rw [inV_nint]
      have eD3 := k3 _ _ eD (by simp)
      by_cases hc : f ∈ rowW x.hs r.f
      · rw [decide_eq_true hc]
        refine iteT ⟨_, rfl, _, eD3, ?_, fun b o eb hb => (upd_ne (ne_of_none eb hD)).trans ((k.trans k3) b o eb hb), ?_⟩
        · rw [List.length_map]
          exact small1000 (Nat.le_trans (List.length_filter_le _ _) (Nat.le_trans (List.length_take_le _ _) (by omega)))
        · rw [upd_same, sel_yes (fun r : Rm => V.ref r.w) (fun r => decide (f ∈ rowW x.hs r.f)) hr2 (decide_eq_true hc)]
      · rw [decide_eq_false hc]
        refine iteF ⟨k.trans k3, ?_⟩
        rw [eD3, sel_no (fun r : Rm => V.ref r.w) (fun r => decide (f ∈ rowW x.hs r.f)) hr2 (decide_eq_false hc)]
    · rintro H' ⟨k, eD⟩
      refine q D H' (k1.free hD) (k1.trans k) ?_
      rw [eD, List.length_map, List.take_of_length_le (Nat.le_refl _)]; rfl
end

end Lw
namespace Lw
open PySem PySem.Spec L2 FG
open PyProof.Rows hiding St
section
variable {P : Program} {w : World} {K : PySem.W.Frag} {mg : Str → Option Value} {base : Heap}
theorem ok_wsteps (T : Tx K mg) {fd : FuncData} (F : Fun K "_law_steps" "_law_steps" s__law_steps (He.ga K "_law_steps") fd) (c__law_inner : Cal P w K mg base 3 "_law_inner" spWInner) (c__law_all_rooms : Cal P w K mg base 2 "_law_all_rooms" spWAll) : FnG P w K mg base 4 (He.ga K "_law_steps") fd ["_law_world_here", "_law_frame", "_law_hands_here"] (spWSteps K) := by
  refine FnG.of F sc__law_steps (fun vs H Q E h => ?_) (fun cdv A outer sh H vs Q E hr h => ?_)
  · obtain ⟨x, f, d, kvs, vd, rfl, _⟩ := h; rfl
  · obtain ⟨x, f, d, kvs, vd, rfl, y, hl, h6, ed, hk, nd, nf, hkv, hcv, q⟩ := h
    have al := allW_len x
    obtain ⟨ps, eps⟩ : ∃ ps, ps = insP x.hs x.ts (x.rs.map rho) f := ⟨_, rfl⟩
    have wys : ∀ {H2 : Hp} {l : Addr}, Kp [] H H2 → H2 l = some (.lst ((inW x f).map fun r => V.ref r.w)) → Dp K H2 (.ref l) (.list ((inW x f).map fun r => wayD r.f r.o)) := fun k e =>
      .lst (SqL.of e) (dp_ways fun r hr => (y.kp0 k).wl r (x.sub.subset (mem_all.mp (List.mem_filter.mp hr).1)))
    have wysT : ∀ {H2 : Hp} {l : Addr}, TKq H H2 → H2 l = some (.lst ((inW x f).map fun r => V.ref r.w)) → Dp K H2 (.ref l) (.list ((inW x f).map fun r => wayD r.f r.o)) := fun t e =>
      .lst (SqL.of e) (dp_ways fun r hr => t _ _ (y.wl r (x.sub.subset (mem_all.mp (List.mem_filter.mp hr).1))))
    refine ⟨_, pss_cons (ps_set (i := 3) sc__law_steps.nd rfl (by first | exact Or.inl rfl | exact Or.inr rfl) (gc c__law_inner (hr.mono (by decide)) takes0 (pa_cons (pv 0) (pa_cons (pv 1) (pa_nil)))))
      (pss_cons (ps_lock (ps_setLc (i := 4) (own := [("_law_name", 5)]) (g := gName 5) rfl sc__law_steps.nd rfl rfl (sw_true rfl rfl rfl (by decide +kernel)) (pi_keys (pv 2)) (blkOk_by (own := [("_law_name", 5)]) (N := ["_law_world_here", "_law_frame", "_law_hands_here", "_law_inner_here", "_law_found", "_law_name", "_law_holder", "_law_cells", "_law_k"]) (sc := defScope s__law_steps) (by decide +kernel)) (fun _ _ _ _ _ => pg_name (i := 5) sc__law_steps.nd rfl (by first | exact Or.inl rfl | exact Or.inr rfl)) (fun _ _ _ _ _ => by exact pts_one (pt_cmpR (kinD K hr.u65) (pe_dget hr.hu (pv 2) (pv 5) (fun _ _ => rfl)) (pv 3) (by first | exact nomark _ | rfl))) (fun _ _ _ _ _ => by exact pe_tup (pa_cons (pe_str) (pa_cons (pv 5) (pa_cons (pe_dget hr.hu (pv 2) (pv 5) (fun _ _ => rfl)) (pa_nil)))))))
      (pss_cons (ps_for (passes_of rfl) rfl (kiL K (gc c__law_all_rooms (hr.mono (by decide)) takes0 (pa_cons (pv 0) (pa_nil)))) (pg_name (i := 6) sc__law_steps.nd rfl (by first | exact Or.inl rfl | exact Or.inr rfl))
        (pss_one (ps_if (pt_cmpR (knotInD K hr.u65) (pv 6) (pv 3) (by first | exact nomark _ | rfl)) (pss_cons (ps_set (i := 7) sc__law_steps.nd rfl (by first | exact Or.inl rfl | exact Or.inr rfl) (pe_dget hr.hu (pe_dget hr.hu (pv 0) (pe_str) (fun _ _ => rfl)) (pv 6) (fun _ _ => rfl)))
      (pss_one (ps_expr (kbm K PySem.F.plainAttrs_list PySem.F.slot_list_extend PySem.F.type_list_extend mt_extend (pv 4) (pa_cons (pe_lc (own := [("_law_k", 8)]) (g := gName 8) rfl sc__law_steps.nd (pi_range1 rfl T.z_range (pa_cons (pe_callB (klen K) (by rfl) T.z_len PySem.boot_len (pa_cons (pv 7) (pa_nil))) (pa_nil))) (blkOk_by (own := [("_law_k", 8)]) (N := ["_law_world_here", "_law_frame", "_law_hands_here", "_law_inner_here", "_law_found", "_law_name", "_law_holder", "_law_cells", "_law_k"]) (sc := defScope s__law_steps) (by decide +kernel)) (fun _ _ _ _ _ => pg_name (i := 8) sc__law_steps.nd rfl (by first | exact Or.inl rfl | exact Or.inr rfl)) (fun _ _ _ _ _ => by exact pts_one (pt_cmpR (kinD K hr.u65) (pe_ix (kixL K) (pv 7) (pv 8) (fun _ _ => rfl)) (pv 3) (by first | exact nomark _ | rfl))) (fun _ _ _ _ _ => by exact pe_tup (pa_cons (pe_str) (pa_cons (pv 6) (pa_cons (pv 8) (pa_cons (pe_ix (kixL K) (pv 7) (pv 8) (fun _ _ => rfl)) (pa_nil))))))) (pa_nil)))))) (pss_nil))))
      (pss_one (ps_ret (pv 4))))), ?_⟩
    refine ⟨_, rfl, _, rfl, x, f, rfl, y, hl, fun li H1 hli k1 eli => ?_⟩
    have ed1 := k1 _ _ ed (by simp)
    have nlid : li ≠ d := ne_of eli ed1 (fun z => by cases z)
    walk_at "nx"
    refine cut_seq (fun σ' H' => ∃ l, σ' = [some (.ref x.m), some (nint f), some (.ref d), some (.ref li), some (.ref l), none, none, none, none] ∧ H1 l = none ∧ Kp [] H1 H' ∧ StL K H' l (handD vd ps kvs)) (fun nx q' => ?_) ?_
    · refine ⟨d, _, ed1, trivial, fun od => ?_⟩
      obtain ⟨H2, eH2⟩ : ∃ H2, H2 = upd H1 d (.frz od (.dK kvs)) := ⟨_, rfl⟩
      have f1 : H2 d = some (.frz od (.dK kvs)) := by rw [eH2]; exact upd_same
      have kd : Kp [d] H1 H2 := eH2 ▸ kp_upd
      have t1 : TKq H1 H2 := eH2 ▸ tk_frz ed1 fun _ z => by cases z
      have n1 : ∀ b, H2 b = none → H1 b = none := fun b h => by
        cases e : H1 b with
        | none => rfl
        | some o =>
          by_cases hb : b = d
          · rw [hb, f1] at h; cases h
          · rw [kd b o e (by simpa using hb)] at h; cases h
      walk_at "nx"
      rw [← eH2]
      refine ⟨_, rfl, d, od, rfl, .inl ⟨kvs, f1, fun D hD => ?_⟩⟩
      have nDd : D ≠ d := fun z => by rw [z, f1] at hD; cases hD
      refine lc_it walk_keys (fun i H' => Kp [] H2 H' ∧ StL K H' D (handD vd ps (kvs.take i))) ⟨Kp.refl.new hD, StL.zero⟩ (fun i H' _ z => z.1 _ _ f1 (by simp)) ?_ ?_
      · rintro i v H0 H3 hi ⟨k3, st⟩ ⟨rfl, k, u, hkv2, rfl⟩
        have hpm := List.mem_of_getElem? hkv2
        have t3 : TKq H H3 := (k1.tkq.trans t1).trans k3.tkq
        have vd4 : Vd H3 u (vd u) := (hkv _ hpm).tk t3
        have dg : DGet H3 d (kV k) (some u) := .inl ⟨kvs, k, .inr ⟨od, k3 _ _ f1 (by simp)⟩, rfl, (val_nodup nd _ hpm).symm⟩
        have eli3 := k3 _ _ (kd _ _ eli (by simpa using nlid)) (by simp)
        refine ⟨rfl, _, rfl, _, rfl, d, u, rfl, dg, _, rfl, vd u, _, vd4.dp, wysT t3 eli3, vd4.shaped, shaped_ways _, ?_⟩
        rw [any_inW, ← eps]
        cases hb : inB ps (vd u) with
        | true =>
          refine ⟨_, rfl, ?_⟩
          refine ⟨_, rfl, _, rfl, _, rfl, d, u, rfl, dg, (by show 3 ≤ sizeLine; decide), fun t hp => ?_⟩
          have kt := (Kp.refl (S := []) (H := H3)).new (o := .tup [.str "hand", kV k, u]) hp
          obtain ⟨ts, e5, lt, st5⟩ := st.snoc hp rfl (dp_hand (k := k) upd_same (vd4.tk kt.tkq))
          refine ⟨ts, e5, ?_, fun b o eb nb => (upd_ne (ne_of_none eb hD)).trans ((k3.trans kt) b o eb nb), ?_⟩
          · have h1 := handD_len vd ps (kvs.take i)
            have h2 := List.length_take_le i kvs
            rw [lt]; exact sz_lt (by omega)
          · rw [hand_yes (p := (k, u)) hkv2 hb]; exact st5
        | false =>
          refine ⟨_, rfl, ?_⟩
          refine ⟨k3, ?_⟩
          rw [hand_no (p := (k, u)) hkv2 hb]
          exact st
      · rintro H' ⟨k3, ts, ets, dts⟩
        have e3 := k3 _ _ f1 (by simp)
        rw [List.take_of_length_le (Nat.le_refl _)] at dts
        refine ⟨e3, q' _ _ ⟨D, rfl, n1 D hD, fun b o eb _ => ?_, ts, (upd_ne nDd).trans ets, Paired.mapP dts fun p s z => z.tk fun b xs eb => (upd_ne fun z => by rw [z, e3] at eb; cases eb).trans eb⟩⟩
        by_cases nb : b = d
        · rw [nb, upd_same]; rw [nb, ed1] at eb; exact eb
        · exact (upd_ne nb).trans (k3 b o (kd b o eb (by simpa using nb)) (by simp))
    · rintro σ' H2 ⟨l, rfl, hl0, k2, st⟩
      have k02 := k1.trans k2
      have hlH : H l = none := k1.free hl0
      refine ⟨_, rfl, x, rfl, y.kp0 k02, hl, fun la H3 hla k3 ela => ?_⟩
      have eli3 := k3 _ _ (k2 _ _ eli (by simp)) (by simp)
      have nla : la ≠ l := fun z => by obtain ⟨ts, e, _⟩ := st; rw [z, e] at hla; cases hla
      have nli : li ≠ l := ne_of_none eli hl0
      refine ⟨la, rfl, ⟨_, SqL.of ela⟩, for_list (K := K) (a := la) (xs := (allW x).map fun r => V.ref r.w) (fun j σ H' => ∃ v6 v7, σ = [some (.ref x.m), some (nint f), some (.ref d), some (.ref li), some (.ref l), none, v6, v7, none] ∧ Kp [] H H' ∧ H' la = some (.lst ((allW x).map fun r => V.ref r.w)) ∧
        H' li = some (.lst ((inW x f).map fun r => V.ref r.w)) ∧ StL K H' l (handD vd ps kvs ++ roomsD vd ps (((allW x).take j).map rho))) ⟨_, _, rfl, k02.trans k3, ela, eli3, by simpa [roomsD] using st.kp k3⟩ (fun i σ H' _ ⟨_, _, _, _, z, _⟩ => SqL.of z) ?_ ?_⟩
      · rintro j v σ H4 hv ⟨v6, v7, rfl, k4, ea4, ei4, st4⟩
        rw [List.getElem?_map] at hv
        obtain ⟨r, hr2, rfl⟩ := Option.map_eq_some_iff.mp hv
        have hm := List.mem_of_getElem? hr2
        have hh := mem_all.mp hm
        have hrs := x.sub.subset hh
        have y4 := y.kp0 k4
        have sz := h6 r hrs
        have hj9 := (List.getElem?_eq_some_iff.mp hr2).1
        have et5 : ((allW x).take (j + 1)).map rho = ((allW x).take j).map rho ++ [rho r] := by
          obtain ⟨hi, eg⟩ := List.getElem?_eq_some_iff.mp hr2
          rw [List.take_succ_eq_append_getElem hi, eg, List.map_append]; rfl
        have e1 : roomsD vd ps [rho r] = if (r.f, r.o) ∈ ps then [] else cellsD vd ps (rho r) r.cells.length := roomsD_one vd ps (rho r)
        refine ⟨_, rfl, _, rfl, wayD r.f r.o, _, dp_way (y4.wl r hrs), wys k4 ei4, shaped_way _ _, shaped_ways _, ?_⟩
        rw [any_inW, ← eps, inB_way]
        by_cases hin : (r.f, r.o) ∈ ps
        · rw [decide_eq_true hin]
          refine ⟨_, rfl, iteF ⟨_, _, rfl, k4, ea4, ei4, ?_⟩⟩
          rw [et5, roomsD_app, e1, if_pos hin, List.append_nil]
          exact st4
        · rw [decide_eq_false hin]
          refine ⟨_, rfl, iteT ?_⟩
          refine ⟨_, rfl, x.m, _, rfl, y4.get5, _, rfl, x.c, _, rfl, y4.getR hh (y4.wl r hrs), ?_⟩
          obtain ⟨ts4, e4l, _⟩ := id st4
          have erc := y4.cl r hh
          refine ⟨_, rfl, .inl ⟨rfl, _, SqL.of e4l⟩, _, rfl, r.c, _, rfl, .inl (SqL.of erc), _, rfl, (by omega), (by omega), fun D hD => ?_⟩
          refine lc_range (lo := 0) (n := r.cells.length) (fun i H' => Kp [] H4 H' ∧ StL K H' D (cellsD vd ps (rho r) i)) ⟨Kp.refl.new hD, StL.zero⟩ ?_ ?_
          · rintro i H5 hi ⟨k5, st5⟩
            have hci : r.cells[i]? = some r.cells[i] := List.getElem?_eq_getElem hi
            have hvm := List.getElem_mem hi
            generalize r.cells[i] = u at hci hvm
            have hz : r.cells.zipIdx[i]? = some (u, i) := by
              rw [List.getElem?_zipIdx, hci]; simp
            have k05 := k4.trans k5
            have vd5 : Vd H5 u (vd u) := (hcv r hh u hvm).tk k05.tkq
            have erc5 := k5 _ _ erc (by simp)
            have eat : atI r.cells (0 + (i : Int)) = some u := by rw [Int.zero_add]; exact atI_nat hci
            refine ⟨rfl, _, rfl, _, rfl, r.c, _, _, u, rfl, rfl, SqL.of erc5, eat, _, rfl, vd u, _, vd5.dp, wys k05 (k5 _ _ ei4 (by simp)), vd5.shaped, shaped_ways _, ?_⟩
            rw [any_inW, ← eps]
            cases hb : inB ps (vd u) with
            | true =>
              refine ⟨_, rfl, ?_⟩
              refine ⟨_, rfl, _, rfl, _, rfl, _, rfl, r.c, _, _, u, rfl, rfl, SqL.of erc5, eat, (by show 4 ≤ sizeLine; decide), fun p hp => ?_⟩
              rw [Int.zero_add]
              have kt := (Kp.refl (S := []) (H := H5)).new (o := .tup [.str "room", .ref r.w, .int (i : Nat), u]) hp
              obtain ⟨ts, e6, lt, st6⟩ := st5.snoc hp rfl (dp_room (f := r.f) (o := r.o) upd_same (kt _ _ ((y.kp0 k05).wl r hrs) (by simp)) (vd5.tk kt.tkq))
              refine ⟨ts, e6, ?_, fun b o eb hb' => (upd_ne (ne_of_none eb hD)).trans ((k5.trans kt) b o eb hb'), ?_⟩
              · rw [lt]; exact sz_lt (Nat.le_trans (cellsD_len _ _ _ _) (by omega))
              · rw [cells_yes (t := rho r) hz hb]
                exact st6
            | false =>
              refine ⟨_, rfl, ?_⟩
              refine ⟨k5, ?_⟩
              rw [cells_no (t := rho r) hz hb]
              exact st5
          · rintro H5 ⟨k5, st5⟩
            obtain ⟨ts, zs, e1', e2', l1, l2, st6⟩ := (st4.kp k5).ext st5
            refine ⟨l, D, ts, zs, rfl, rfl, e1', e2', ?_, ?_⟩
            · have hlr := roomsD_len vd ps (l := ((allW x).take j).map rho) fun t ht => by
                obtain ⟨q', hq', rfl⟩ := List.mem_map.mp ht
                exact h6 q' (x.sub.subset (mem_all.mp (List.mem_of_mem_take hq')))
              have hlt := List.length_take_le j (allW x)
              have hlc := cellsD_len vd ps (rho r) r.cells.length
              have hlh := handD_len vd ps kvs
              rw [List.length_map] at hlr
              rw [l1, l2, List.length_append]
              exact sz_in (by omega)
            · have k05 := k4.trans k5
              refine ⟨_, _, rfl, fun b o eb hb' => (upd_ne (ne_of_none eb hlH)).trans (k05 b o eb hb'), (upd_ne nla).trans (k5 _ _ ea4 (by simp)), (upd_ne nli).trans (k5 _ _ ei4 (by simp)), ?_⟩
              rw [et5, roomsD_app, e1, if_neg hin, ← List.append_assoc]
              exact st6
      · rintro σ H4 ⟨v6, v7, rfl, k4, _, _, st4⟩
        rw [List.length_map, List.take_of_length_le (Nat.le_refl _), allW_rho] at st4
        exact ⟨_, rfl, q l H4 hlH k4 (eps ▸ st4)⟩
end

end Lw
namespace Lw
open PySem PySem.Spec L2 FG
open PyProof.Rows hiding St
/-! ### the law's picture -/
def picFW (x : WSt) (cd : List V → List PyData) (f : Nat) : PyData := .tuple [pnint f, encD (x.hs[f]?.getD none), .tuple ((x.giv f).map (picR cd))]
def picDW (x : WSt) (cd : List V → List PyData) : PyData := .tuple [pnint x.lim, .tuple ((stand x.ts).map (picFW x cd))]
def spWPicture (K : PySem.W.Frag) : Sp := fun vs H Q _ => ∃ (x : WSt) (cd : List V → List PyData), vs = [.ref x.m] ∧ WAt H x ∧ x.rs.length ≤ 1000 ∧ (∀ r ∈ x.here, ∀ H', TKq H H' → DpAll K H' r.cells (cd r.cells)) ∧
  ∀ v H', Kp [] H H' → (∀ H'', TKq H' H'' → Dp K H'' v (picDW x cd)) → Q v H'
theorem HW.pic {K : PySem.W.Frag} {H : Hp} {s : HSt} {x : WSt} (y : HW K H s x) (cd : List V → List PyData) : picDW x cd = picD s cd := by
  have e1 : ∀ f, (x.giv f).map (picR cd) = (s.giv f).map (picR cd) := fun f => by
    have z : ∀ l : List Rm, l.map (picR cd) = (l.map rho).map fun t => PyData.tuple (cd t.2.2) := fun l => by rw [List.map_map]; rfl
    rw [z, z, y.eGiv f]
  unfold picDW picD
  rw [y.lim, y.et]
  congr 2
  refine congrArg (fun l => [PyData.tuple l]) (List.map_congr_left fun f _ => ?_)
  unfold picFW picF
  rw [y.eh, e1 f]
section
variable {P : Program} {w : World} {K : PySem.W.Frag} {mg : Str → Option Value} {base : Heap}
theorem ok_wpicture (T : Tx K mg) {fd : FuncData} (F : Fun K "_law_picture" "_law_picture" s__law_picture (He.ga K "_law_picture") fd) (c__law_standing : Cal P w K mg base 1 "_law_standing" spWStanding) : FnG P w K mg base 2 (He.ga K "_law_picture") fd ["_law_world_here"] (spWPicture K) := by
  refine FnG.of F sc__law_picture (fun vs H Q E h => ?_) (fun cdv A outer sh H vs Q E hr h => ?_)
  · obtain ⟨x, cd, rfl, _⟩ := h; rfl
  · obtain ⟨x, cd, rfl, y, hrl, hcd, q⟩ := h
    have wf := y.wf
    have wl := wf.len
    have ws := wf.small
    refine ⟨_, pss_cons (ps_set (i := 1) sc__law_picture.nd rfl (by first | exact Or.inl rfl | exact Or.inr rfl) (pe_lst (pa_nil)))
      (pss_cons (ps_for (passes_of rfl) rfl (kiL K (gc c__law_standing (hr.mono (by decide)) takes0 (pa_cons (pv 0) (pa_nil)))) (pg_name (i := 2) sc__law_picture.nd rfl (by first | exact Or.inl rfl | exact Or.inr rfl))
        (pss_cons (ps_set (i := 3) sc__law_picture.nd rfl (by first | exact Or.inl rfl | exact Or.inr rfl) (pe_callTy (ktuple K) (by rfl) T.z_tuple (by decide +kernel) (pa_cons (pe_lc (own := [("_law_way", 4)]) (g := gName 4) (tt := tYes) rfl sc__law_picture.nd (kiL K (pe_ix (kixL K) (pe_dget hr.hu (pv 0) (pe_str) (fun _ _ => rfl)) (pv 2) (fun _ _ => rfl))) (blkOk_by (own := [("_law_way", 4)]) (N := ["_law_world_here", "_law_rows", "_law_frame", "_law_rooms", "_law_way"]) (sc := defScope s__law_picture) (by decide +kernel)) (fun _ _ _ _ _ => pg_name (i := 4) sc__law_picture.nd rfl (by first | exact Or.inl rfl | exact Or.inr rfl)) (fun _ _ _ _ _ => by exact pts_nil) (fun _ _ _ _ _ => by exact pe_callTy (ktuple K) (by rfl) T.z_tuple (by decide +kernel) (pa_cons (pe_dget hr.hu (pe_dget hr.hu (pv 0) (pe_str) (fun _ _ => rfl)) (pv 4) (fun _ _ => rfl)) (pa_nil)))) (pa_nil))))
      (pss_one (ps_expr (kbm K PySem.F.plainAttrs_list PySem.F.slot_list_append PySem.F.type_list_append mt_append (pv 1) (pa_cons (pe_tup (pa_cons (pv 2) (pa_cons (pe_ix (kixL K) (pe_dget hr.hu (pv 0) (pe_str) (fun _ _ => rfl)) (pv 2) (fun _ _ => rfl)) (pa_cons (pv 3) (pa_nil))))) (pa_nil)))))))
      (pss_one (ps_ret (pe_tup (pa_cons (pe_dget hr.hu (pv 0) (pe_str) (fun _ _ => rfl)) (pa_cons (pe_callTy (ktuple K) (by rfl) T.z_tuple (by decide +kernel) (pa_cons (pv 1) (pa_nil))) (pa_nil))))))), ?_⟩
    refine ⟨(by show 0 ≤ sizeLine; decide), fun lf hlf => ?_⟩
    have k1 := (Kp.refl (S := []) (H := H)).new (o := .lst []) hlf
    have e1 : upd H lf (.lst []) lf = some (.lst []) := upd_same
    generalize upd H lf (.lst []) = H1 at *
    refine ⟨_, rfl, x, rfl, y.kp0 k1, fun l H2 hl k2 el => ?_⟩
    have k12 := k1.trans k2
    have nl : lf ≠ l := ne_of_none e1 hl
    refine ⟨l, rfl, ⟨_, SqL.of el⟩, for_list (K := K) (a := l) (xs := (stand x.ts).map nint) (fun i σ H' => ∃ v2 v3, σ = [some (.ref x.m), some (.ref lf), v2, v3, none] ∧ Kp [] H H' ∧ H' l = some (.lst ((stand x.ts).map nint)) ∧ ∃ vs : List V, H' lf = some (.lst vs) ∧ vs.length = i ∧ ∀ H'', TKq H' H'' → DpAll K H'' vs (((stand x.ts).take i).map (picFW x cd)))
      ⟨_, _, rfl, k12, el, [], k2 _ _ e1 (by simp), rfl, fun H'' _ => .nil⟩ (fun i σ H' _ ⟨_, _, _, _, z, _⟩ => SqL.of z) ?_ ?_⟩
    · rintro i v σ H3 hx ⟨v2, v3, rfl, k3, el3, vs, ef3, vl, dp⟩
      rw [List.getElem?_map] at hx
      obtain ⟨g, hg, rfl⟩ := Option.map_eq_some_iff.mp hx
      have hgt : x.ts[g]? = some none := mem_stand.mp (List.mem_of_getElem? hg)
      have hgl : g < x.hs.length := by have := (List.getElem?_eq_some_iff.mp hgt).1; omega
      have hi : i < (stand x.ts).length := (List.getElem?_eq_some_iff.mp hg).1
      have sl := stand_len x.ts
      have y3 := y.kp0 k3
      have hfr : g < x.rl.length := by rw [y.rn]; exact hgl
      have ef : x.rl[g]? = some x.rl[g] := List.getElem?_eq_getElem hfr
      have ell := y3.ll g _ ef
      refine ⟨_, rfl, x.m, _, rfl, y3.get3, _, rfl, x.r, _, _, .ref x.rl[g], rfl, rfl, SqL.of y3.lr, atI_nat (by rw [List.getElem?_map, ef]; rfl), x.rl[g], rfl, ⟨_, SqL.of ell⟩, fun D hD => ?_⟩
      have neD : ∀ b o, H3 b = some o → b ≠ D := fun b o eb => ne_of_none eb hD
      refine lc_list (K := K) (a := x.rl[g]) (xs := (x.giv g).map fun r => V.ref r.w) (fun i H5 => Kp [] H3 H5 ∧ ∃ us : List V, H5 D = some (.lst us) ∧ us.length = i ∧ ∀ H'', TKq H5 H'' → DpAll K H'' us (((x.giv g).take i).map (picR cd)))
        ⟨fun b o eb _ => (upd_ne (neD b o eb)).trans eb, [], upd_same, rfl, fun H'' _ => .nil⟩ (fun i H5 _ ⟨k5, _⟩ => SqL.of (k5 _ _ ell (by simp))) ?_ ?_
      · rintro j v H5 hy ⟨k5, us, eD, ul, du⟩
        rw [List.getElem?_map] at hy
        obtain ⟨r, hr2, rfl⟩ := Option.map_eq_some_iff.mp hy
        have hm := List.mem_of_getElem? hr2
        have hj := (List.getElem?_eq_some_iff.mp hr2).1
        obtain ⟨hrs, hrf⟩ := mem_wgiv.mp hm
        have hh : r ∈ x.here := mem_whr.mpr ⟨hrs, by rw [hrf]; exact hgt⟩
        have k35 := k3.trans k5
        have y5 := y.kp0 k35
        have gl2 : (x.giv g).length ≤ 1000 := Nat.le_trans (giv_len x g) hrl
        refine ⟨rfl, _, rfl, x.m, _, rfl, y5.get5, _, rfl, x.c, _, rfl, y5.getR hh (y5.wl r hrs), r.c, _, rfl, .inl ⟨SqL.of (y5.cl r hh), fun q2 hq2 => ?_⟩⟩
        have k6 := (Kp.refl (S := []) (H := H5)).new (o := .tup r.cells) hq2
        have e6 : upd H5 q2 (.tup r.cells) q2 = some (.tup r.cells) := upd_same
        generalize upd H5 q2 (.tup r.cells) = H6 at *
        have eD6 := k6 _ _ eD (by simp)
        refine ⟨_, eD6, (by rw [ul]; exact sz_lt (by omega)), fun b o eb _ => (upd_ne (neD b o eb)).trans ((k5.trans k6) b o eb (by simp)), us ++ [.ref q2], upd_same, by rw [List.length_append, ul]; rfl, fun H'' k'' => ?_⟩
        have t6 : TKq H6 H'' := (tkq_upd eD6).trans k''
        rw [List.take_succ, hr2, List.map_append]
        refine DpAll.snoc ?_ (du H'' (k6.tkq.trans t6))
        exact .tup (SqT.of (t6 _ _ e6)) (hcd r hh H'' ((k35.trans k6).tkq.trans t6))
      · rintro H5 ⟨k5, us, eD, ul, du⟩
        refine ⟨D, _, rfl, .inl ⟨SqL.of eD, fun q2 hq2 => ?_⟩⟩
        have k6 := (Kp.refl (S := []) (H := H5)).new (o := .tup us) hq2
        have e6 : upd H5 q2 (.tup us) q2 = some (.tup us) := upd_same
        walk_at "nx"
        generalize upd H5 q2 (.tup us) = H6 at *
        have k36 := (k3.trans k5).trans k6
        have y6 := y.kp0 k36
        have ef6 := k6 _ _ (k5 _ _ ef3 (by simp)) (by simp)
        refine ⟨_, rfl, .inl ⟨rfl, _, SqL.of ef6⟩, _, rfl, _, rfl, x.m, _, rfl, y6.get1, _, rfl, x.a, _, _, _, rfl, rfl, SqL.of y6.lh, get_enc (List.getElem?_eq_getElem hgl), _, rfl, (by show 3 ≤ sizeLine; decide), fun q3 hq3 => ?_⟩
        have k7 := (Kp.refl (S := []) (H := H6)).new (o := .tup [nint g, enc x.hs[g], .ref q2]) hq3
        have e7 : upd H6 q3 (.tup [nint g, enc x.hs[g], .ref q2]) q3 = some (.tup [nint g, enc x.hs[g], .ref q2]) := upd_same
        generalize upd H6 q3 (.tup [nint g, enc x.hs[g], .ref q2]) = H7 at *
        have k47 := k5.trans (k6.trans k7)
        have ef7 := k47 _ _ ef3 (by simp)
        have el7 := k47 _ _ el3 (by simp)
        refine ⟨lf, vs, _, rfl, rfl, ef7, (by rw [vl]; exact Nat.lt_of_le_of_lt (m := 1000) (by omega) (by decide)), _, _, rfl, fun b o eb _ => (upd_ne (ne_of_none eb hlf)).trans ((k3.trans k47) b o eb (by simp)), (upd_ne nl.symm).trans el7, vs ++ [.ref q3], upd_same, by rw [List.length_append, vl]; rfl, fun H'' k'' => ?_⟩
        have t7 : TKq H7 H'' := (tkq_upd ef7).trans k''
        rw [List.take_succ, hg, List.map_append]
        refine DpAll.snoc ?_ (dp H'' (k47.tkq.trans t7))
        have eG : x.hs[g]?.getD none = x.hs[g] := by rw [List.getElem?_eq_getElem hgl]; rfl
        unfold picFW
        rw [eG]
        have du2 := du H'' ((k6.trans k7).tkq.trans t7)
        rw [List.take_of_length_le (by rw [List.length_map]; exact Nat.le_refl _)] at du2
        exact .tup (SqT.of (t7 _ _ e7)) (.cons (.int _) (.cons (dp_enc1 _) (.cons (.tup (SqT.of (t7 _ _ (k7 _ _ e6 (by simp)))) du2) .nil)))
    · rintro σ H3 ⟨v2, v3, rfl, k3, el3, vs, ef3, vl, dp⟩
      rw [List.length_map, List.take_length] at dp
      have y3 := y.kp0 k3
      refine ⟨_, rfl, x.m, _, rfl, y3.get0, _, rfl, lf, _, rfl, .inl ⟨SqL.of ef3, fun q2 hq2 => ?_⟩⟩
      have k6 := (Kp.refl (S := []) (H := H3)).new (o := .tup vs) hq2
      have e6 : upd H3 q2 (.tup vs) q2 = some (.tup vs) := upd_same
      generalize upd H3 q2 (.tup vs) = H6 at *
      refine ⟨(by show 2 ≤ sizeLine; decide), fun q3 hq3 => ?_⟩
      have k7 := (Kp.refl (S := []) (H := H6)).new (o := .tup [nint x.lim, .ref q2]) hq3
      have e7 : upd H6 q3 (.tup [nint x.lim, .ref q2]) q3 = some (.tup [nint x.lim, .ref q2]) := upd_same
      refine q _ _ (k3.trans (k6.trans k7)) fun H'' t7 => ?_
      exact .tup (SqT.of (t7 _ _ e7)) (.cons (.int _) (.cons (.tup (SqT.of (t7 _ _ (k7 _ _ e6 (by simp)))) (dp H'' ((k6.trans k7).tkq.trans t7))) .nil))
end

end Lw
namespace Lw
open PySem PySem.Spec L2 FG
open PyProof.Rows hiding St
/-! ### a scene -/
theorem made_kp {H H1 : Hp} {p d : Addr} {u v : HO} (hp : H p = none) (hd : H d = none) (k : Kp [p] (upd (upd H d u) p v) H1) : Kp [] H H1 := fun b o e _ =>
  k b o (by rw [upd_ne (ne_of_none e hp), upd_ne (ne_of_none e hd)]; exact e) (by simpa using ne_of_none e hp)
theorem made_free {H : Hp} {p d b : Addr} {u v : HO} (n : upd (upd H d u) p v b = none) : H b = none := by
  have np : b ≠ p := fun c => by rw [c, upd_same] at n; cases n
  rw [upd_ne np] at n
  by_cases c : b = d
  · rw [c, upd_same] at n; cases n
  · rw [upd_ne c] at n; exact n
theorem szs_le {l : List Rm} (h : ∀ r ∈ l, r.cells.length ≤ 6) : szs l ≤ 6 * l.length := by
  unfold szs
  induction l with
  | nil => simp
  | cons r l ih =>
    have h1 := h r (by simp)
    have h2 := ih fun x hx => h x (by simp [hx])
    simp; omega
theorem HW.small {K : PySem.W.Frag} {H : Hp} {s : HSt} {x : WSt} (y : HW K H s x) (hl : s.rs.length ≤ 1000) : ∀ r ∈ x.rs, r.f < 10000 ∧ r.o < 10000 := fun r hr => by
  obtain ⟨q, hq, e1, e2, e3⟩ := rho_mem y.er hr
  have h1 := y.ho.pl.fl q hq
  have h2 := y.ho.pl.ro q hq
  have h3 := y.ho.wf.small
  have h4 : s.fill q.f ≤ 6 * (s.giv q.f).length := szs_le fun r hr => (y.ho.pl.sz r (mem_giv.mp hr).1).2
  have h5 : (s.giv q.f).length ≤ s.rs.length := List.length_filter_le _ _
  have h6 := y.ho.pl.sz q hq
  omega
/-- a house, the law's rows of it, hands -/
structure Scn (K : PySem.W.Frag) (H : Hp) (s : HSt) (x : WSt) (d : Addr) (kvs : List (L2.Key × V)) : Prop where
  hw : HW K H s x
  ed : H d = some (.dK kvs)
  hd : HdP x.rs kvs
  n1 : d ∉ s.foot
  n2 : d ∉ x.foot
  ln : s.rs.length ≤ 200
theorem HdP.more {l m : List Rm} {kvs : List (L2.Key × V)} (h : HdP l kvs) (s : ∀ r ∈ l, ∃ q ∈ m, q.w = r.w) : HdP m kvs := ⟨h.nm, fun p hp => (h.vm p hp).mono s, h.nd, h.ln⟩
def sfoot (s : HSt) (x : WSt) (d : Addr) : List Addr := d :: (s.foot ++ x.foot)
theorem Scn.std {K : PySem.W.Frag} {H : Hp} {s : HSt} {x : WSt} {d : Addr} {kvs : List (L2.Key × V)} (y : Scn K H s x d kvs) : ∀ a ∈ sfoot s x d, ∃ o, H a = some o ∧ (∀ xs, o ≠ .tup xs) ∧ (∀ b v, o ≠ .frz b v) := fun a ha => by
  rcases List.mem_cons.mp ha with z | z
  · rw [z]; exact ⟨_, y.ed, (fun _ c => by cases c), (fun _ _ c => by cases c)⟩
  · rcases List.mem_append.mp z with z | z
    · exact y.hw.ho.std a z
    · exact y.hw.wa.std a z
theorem Scn.kp {K : PySem.W.Frag} {H H' : Hp} {S : List Addr} {s : HSt} {x : WSt} {d : Addr} {kvs : List (L2.Key × V)} (y : Scn K H s x d kvs) (k : Kp S H H') (h : ∀ a ∈ S, a ∉ sfoot s x d) (hT : ∀ a ∈ S, ∀ xs, H a ≠ some (.tup xs)) : Scn K H' s x d kvs :=
  ⟨y.hw.kp k (fun a ha z => h a ha (List.mem_cons_of_mem _ (List.mem_append_left _ z))) (fun a ha z => h a ha (List.mem_cons_of_mem _ (List.mem_append_right _ z))) hT, k _ _ y.ed fun z => h d z List.mem_cons_self, y.hd, y.n1, y.n2, y.ln⟩
theorem Scn.kp0 {K : PySem.W.Frag} {H H' : Hp} {s : HSt} {x : WSt} {d : Addr} {kvs : List (L2.Key × V)} (y : Scn K H s x d kvs) (k : Kp [] H H') : Scn K H' s x d kvs := y.kp k (fun _ z => by cases z) (fun _ z => by cases z)
def spWScene (K : PySem.W.Frag) : Sp := fun vs H Q _ => ∃ (b : Addr) (n : Int), vs = [.ref b] ∧ BoxAt H b n ∧ n < 100 ∧
  ∀ p H' s x d kvs, Kp [b] H H' → BoxAt H' b (n + 5000) → Scn K H' s x d kvs → s.rs.length ≤ 39 → kvs.length ≤ 40 → (∀ a ∈ sfoot s x d, H a = none) → H' p = some (.tup [.ref s.p, .ref x.m, .ref d]) → Q (.ref p) H'
section
variable {P : Program} {w : World} {K : PySem.W.Frag} {mg : Str → Option Value} {base : Heap}
theorem ok_wscene (T : Tx K mg) {fd : FuncData} (F : Fun K "_law_scene" "_law_scene" s__law_scene (He.ga K "_law_scene") fd) (k_House : Mak P w K mg base 3 "House" (CH K) (spHInit K)) (c__law_take : Cal P w K mg base 1 "_law_take" spTake) (c__law_world : Cal P w K mg base 1 "_law_world" spWWorld) (c__law_deed : Cal P w K mg base 6 "_law_deed" (spWDeed K)) (c__law_hands : Cal P w K mg base 4 "_law_hands" spWHands) : FnG P w K mg base 7 (He.ga K "_law_scene") fd ["_law_box_here"] (spWScene K) := by
  refine FnG.of F sc__law_scene (fun vs H Q E h => ?_) (fun cdv A outer sh H vs Q E hr h => ?_)
  · obtain ⟨b, n, rfl, _⟩ := h; rfl
  · obtain ⟨b, n, rfl, hb, hn, q⟩ := h
    refine ⟨_, pss_cons (ps_set (i := 1) sc__law_scene.nd rfl (by first | exact Or.inl rfl | exact Or.inr rfl) (pe_ix (kixL K) (pe_lst (pa_cons (pe_int) (pa_cons (pe_int) (pa_cons (pe_int) (pa_cons (pe_int) (pa_nil)))))) (gc c__law_take (hr.mono (by decide)) takes0 (pa_cons (pv 0) (pa_cons (pe_int) (pa_nil)))) (fun _ _ => rfl)))
      (pss_cons (ps_set (i := 2) sc__law_scene.nd rfl (by first | exact Or.inl rfl | exact Or.inr rfl) (gk k_House (hr.mono (by decide)) takes0 (pa_cons (pv 1) (pa_nil))))
      (pss_cons (ps_set (i := 3) sc__law_scene.nd rfl (by first | exact Or.inl rfl | exact Or.inr rfl) (gc c__law_world (hr.mono (by decide)) takes0 (pa_cons (pv 1) (pa_nil))))
      (pss_cons (ps_for (passes_of rfl) rfl (pi_range1 rfl T.z_range (pa_cons (pe_op op_add (pe_int) (gc c__law_take (hr.mono (by decide)) takes0 (pa_cons (pv 0) (pa_cons (pe_int) (pa_nil))))) (pa_nil))) (pg_name (i := 4) sc__law_scene.nd rfl (by first | exact Or.inl rfl | exact Or.inr rfl))
        (pss_one (ps_if (pt_not (pt_val (gc c__law_deed (hr.mono (by decide)) takes0 (pa_cons (pv 0) (pa_cons (pv 2) (pa_cons (pv 3) (pa_nil))))))) (pss_one (ps_ret (pe_non))) (pss_nil))))
      (pss_one (ps_ret (pe_tup (pa_cons (pv 2) (pa_cons (pv 3) (pa_cons (gc c__law_hands (hr.mono (by decide)) takes0 (pa_cons (pv 0) (pa_cons (pv 3) (pa_nil)))) (pa_nil)))))))))), ?_⟩
    refine ⟨(by show 4 ≤ sizeLine; decide), fun r hr2 => ?_⟩
    have b1 := hb.new (o := .lst [.int 60, .int 200, .int 1000, .int 24]) hr2
    have k1 := (Kp.refl (S := []) (H := H)).new (o := .lst [.int 60, .int 200, .int 1000, .int 24]) hr2
    have er : upd H r (.lst [.int 60, .int 200, .int 1000, .int 24]) r = some (.lst [.int 60, .int 200, .int 1000, .int 24]) := upd_same
    have nr := hb.ne hr2
    generalize upd H r (.lst [.int 60, .int 200, .int 1000, .int 24]) = H1 at *
    refine ⟨_, rfl, b, n, 4, rfl, b1, by omega, by decide, by decide, fun H2 e k2 b2 e0 e1 => ?_⟩
    obtain ⟨lim, elim, l1, l2⟩ : ∃ lim : Nat, atI [V.int 60, .int 200, .int 1000, .int 24] e = some (nint lim) ∧ 1 ≤ lim ∧ lim ≤ 1000 := by
      have : e = 0 ∨ e = 1 ∨ e = 2 ∨ e = 3 := by omega
      rcases this with rfl | rfl | rfl | rfl
      · exact ⟨60, rfl, by decide, by decide⟩
      · exact ⟨200, rfl, by decide, by decide⟩
      · exact ⟨1000, rfl, by decide, by decide⟩
      · exact ⟨24, rfl, by decide, by decide⟩
    refine ⟨r, _, _, _, rfl, rfl, SqL.of ((k2 r nr).trans er), elim, ?_⟩
    have K2 : Kp [b] H H2 := (k1.mono (by simp)).trans k2.kp
    refine ⟨_, rfl, fun p0 d0 hp0 hd0 nd0 => ⟨p0, d0, lim, rfl, upd_same, l1, l2, fun h0 t0 gd0 fd0 sd0 hd0' H3 f3 k3 ho3 => ⟨rfl, _, rfl, lim, rfl, fun m a c' r' g c nn l H4 f4 k4 wa4 => ?_⟩⟩⟩
    have K3 : Kp [] H2 H3 := made_kp hp0 hd0 k3
    have b3 := b2.kp K3 (by simp)
    have b4 := b3.kp k4 (by simp)
    have K4 : Kp [b] H H4 := (K2.trans (K3.mono (by simp))).trans (k4.mono (by simp))
    have F3 : ∀ z ∈ (HSt.bare p0 h0 t0 gd0 fd0 sd0 hd0' lim).foot, H2 z = none := fun z hz => by
      have hz2 : z ∈ [p0, h0, t0, gd0, fd0, sd0, hd0'] := by simpa [HSt.foot, HSt.bare, HSt.here] using hz
      rcases List.mem_cons.mp hz2 with e | e
      · rw [e]; exact hp0
      · exact made_free (f3 z e)
    have F4 : ∀ z ∈ (⟨m, a, c', r', g, c, nn, [l], [none], [none], [], [], lim, 0⟩ : WSt).foot, H3 z = none := fun z hz => by
      refine f4 z ?_
      simpa [WSt.foot, WSt.base, WSt.here] using hz
    have hw4 : HW K H4 (HSt.bare p0 h0 t0 gd0 fd0 sd0 hd0' lim) ⟨m, a, c', r', g, c, nn, [l], [none], [none], [], [], lim, 0⟩ := by
      refine ⟨ho3.kp0 k4, wa4, rfl, rfl, rfl, rfl, (fun i hi => ?_), (fun r hr => by cases hr), rfl, rfl, fun z hz hz2 => ?_⟩
      · have : some i = none := by simpa [HSt.bare] using hi
        cases this
      · obtain ⟨o, e, _⟩ := ho3.std z hz
        rw [F4 z hz2] at e; cases e
    have fr2 : ∀ z, H2 z = none → H z = none := fun z hz => K2.fr1 b2 hz
    have fr3 : ∀ z, H3 z = none → H z = none := fun z hz => fr2 z (K3.free hz)
    obtain ⟨eb0, eb1, eb2, ebb, _⟩ := id hb
    refine ⟨_, rfl, b, _, 26, rfl, b4, by omega, by decide, by decide, fun H5 t k5 b5 tz0 tz1 => ?_⟩
    have nb4s : b ∉ (HSt.bare p0 h0 t0 gd0 fd0 sd0 hd0' lim).foot := fun z => by have := fr2 b (F3 b z); rw [ebb] at this; cases this
    have nb4x : b ∉ (⟨m, a, c', r', g, c, nn, [l], [none], [none], [], [], lim, 0⟩ : WSt).foot := fun z => by have := fr3 b (F4 b z); rw [ebb] at this; cases this
    have hw5 := hw4.kpb k5.kp b4 nb4s nb4x
    refine ⟨_, _, rfl, rfl, _, rfl, (by omega), (by omega), for_range (lo := 0) (n := _) (fun i σ H' => ∃ (s : HSt) (x : WSt) (v4 : Option V), σ = [some (.ref b), some (nint lim), some (.ref s.p), some (.ref x.m), v4] ∧ HW K H' s x ∧ Kp [b] H H' ∧ BoxAt H' b (n + 2 + 20 * i) ∧ s.rs.length ≤ i ∧
      (∀ z ∈ s.foot, H z = none) ∧ (∀ z ∈ x.foot, H z = none)) ⟨_, _, _, rfl, hw5, K4.trans k5.kp, b5.more (by omega), Nat.le_refl _, fun z hz => fr2 z (F3 z hz), fun z hz => fr3 z (F4 z hz)⟩ ?_ ?_⟩
    · rintro i σ H6 hi ⟨s, x, v4, rfl, hw, k6, b6, hl, fs, fx⟩
      have hi36 : i < 36 := by omega
      have nbs : b ∉ s.foot := fun z => by have := fs b z; rw [ebb] at this; cases this
      have nbx : b ∉ x.foot := fun z => by have := fx b z; rw [ebb] at this; cases this
      refine ⟨_, rfl, _, rfl, _, rfl, s, x, b, _, rfl, b6, by omega, hw, nbs, nbx, by omega, fun H7 s' x' k7 hw7 gr b7 => ?_⟩
      refine ⟨_, rfl, iteF ?_⟩
      obtain ⟨ep, em, gf, gl, gm, gw⟩ := gr
      have free6 : ∀ z, H6 z = none → H z = none := fun z hz => k6.fr1 b6 hz
      have nz : ∀ z, z ∈ s'.foot ∨ z ∈ x'.foot → H z = none := fun z hz => by
        rcases gf z hz with h | h | h
        · exact fs z h
        · exact fx z h
        · exact free6 z h
      refine ⟨s', x', _, by rw [ep, em]; rfl, hw7, fun y o ey hy => ?_, b7.more (by push_cast; omega), by omega, fun z hz => nz z (.inl hz), fun z hz => nz z (.inr hz)⟩
      refine k7 y o (k6 y o ey hy) fun z => ?_
      rcases List.mem_cons.mp z with z | z
      · exact hy (by rw [z]; simp)
      · rcases List.mem_append.mp z with z | z
        · have := fs y z; rw [ey] at this; cases this
        · have := fx y z; rw [ey] at this; cases this
    · rintro σ H6 ⟨s, x, v4, rfl, hw, k6, b6, hl, fs, fx⟩
      have hi36 : (10 + t).toNat ≤ 36 := by omega
      have nbx : b ∉ x.foot := fun z => by have := fx b z; rw [ebb] at this; cases this
      have nbs : b ∉ s.foot := fun z => by have := fs b z; rw [ebb] at this; cases this
      refine ⟨_, rfl, _, rfl, _, rfl, _, rfl, x, b, _, rfl, b6, by omega, hw.wa, nbx, by rw [hw.len]; omega, fun d H7 kvs hd7 k7 b7 ed7 hdp hdl => ⟨(by show 3 ≤ sizeLine; decide), fun p hp => ?_⟩⟩
      have hw7 := hw.kpb k7 b6 nbs nbx
      have kp := (Kp.refl (S := []) (H := H7)).new (o := .tup [.ref s.p, .ref x.m, .ref d]) hp
      have e6 : ∀ z, H6 z = none → H z = none := fun z hz => k6.fr1 b6 hz
      refine q p _ s x d kvs ((k6.trans k7).trans (kp.mono (by simp))) ((b7.kp kp (by simp)).more (by omega)) ⟨hw7.kp0 kp, kp _ _ ed7 (by simp), hdp, fun z => ?_, fun z => ?_, by omega⟩ (by omega) hdl (fun z hz => ?_) upd_same
      · obtain ⟨o, e, _⟩ := hw.ho.std d z; rw [hd7] at e; cases e
      · obtain ⟨o, e, _⟩ := hw.wa.std d z; rw [hd7] at e; cases e
      · rcases List.mem_cons.mp hz with h | h
        · rw [h]; exact e6 d hd7
        · rcases List.mem_append.mp h with h | h
          · exact fs z h
          · exact fx z h
end

end Lw
namespace Lw
open PySem PySem.Spec L2 FG
open PyProof.Rows hiding St
/-! ### xs[a:b:c], with the places -/
def sl4I (l u o : Option Int) (n : Nat) : List Nat := sliceRange (sliceBounds l u o n).1 (sliceBounds l u o n).2.1 (sliceBounds l u o n).2.2
def tSl4 (K : PySem.W.Frag) (te : TE) (tl th ts : TO) : TE := fun σ H Q => te σ H fun x H1 => tl σ H1 fun l H2 => th σ H2 fun u H3 => ts σ H3 fun c H4 => ∃ a xs, x = .ref a ∧ SqL K H4 a xs ∧ c ≠ some 0 ∧
  ∀ p ys, H4 p = none → (∀ y ∈ ys, ∃ i ∈ sl4I l u c xs.length, xs[i]? = some y) → ys.length ≤ xs.length → Q (.ref p) (upd H4 p (.lst ys))
theorem pick_valsI {xs : List V} {its : List Value} (r : Vals xs its) : ∀ idx : List Nat, ∃ ys, Vals ys (idx.filterMap (its.toArray[·]?)) ∧ (∀ y ∈ ys, ∃ i ∈ idx, xs[i]? = some y) := by
  intro idx
  induction idx with
  | nil => exact ⟨[], .nil, fun y h => by cases h⟩
  | cons i idx ih =>
    obtain ⟨ys, h1, h2⟩ := ih
    cases e : xs[i]? with
    | none =>
      have l1 : xs.length ≤ i := List.getElem?_eq_none_iff.mp e
      have e2 : its.toArray[i]? = none := by
        rw [List.getElem?_toArray]
        exact List.getElem?_eq_none_iff.mpr (by rw [← r.length]; exact l1)
      exact ⟨ys, by rw [List.filterMap_cons, e2]; exact h1, fun y hy => let ⟨j, hj, ej⟩ := h2 y hy; ⟨j, by simp [hj], ej⟩⟩
    | some x =>
      obtain ⟨b, hb, hx⟩ := paired_get r e
      have e2 : its.toArray[i]? = some b := by rw [List.getElem?_toArray]; exact hb
      refine ⟨x :: ys, by rw [List.filterMap_cons, e2]; exact .cons hx h1, fun y hy => ?_⟩
      rcases List.mem_cons.mp hy with z | z
      · subst z; exact ⟨i, by simp, e⟩
      · obtain ⟨j, hj, ej⟩ := h2 y z
        exact ⟨j, by simp [hj], ej⟩
theorem pe_sl4 {X : Cx} {e : Expr} {lo hi st : Option Expr} {te : TE} {tl th ts : TO} {p3 pos : Pos} (he : PE X e te) (hl : PO X lo tl) (hh : PO X hi th) (hst : PO X st ts)
    (hsub : ∀ a b : Addr, subscripted (.Slice lo hi st p3) false (.ref a) (.ref b) = operate [.ref a, .ref b] (getItem (.ref a) (.ref b)) := by intro _ _; with_unfolding_all rfl) :
    PE X (.Subscript e (.Slice lo hi st p3) pos) (tSl4 X.K te tl th ts) := by
  refine ⟨fun pins s σ H Q I h => ?_⟩
  refine Subscript_ (thn (he.run pins s σ H _ I h) fun v s1 ⟨x, H1, I1, r1, q1⟩ => ?_)
  refine wpAny_Slice (thn (hl.run pins s1 σ H1 _ I1 q1) fun vl s2 ⟨l, H2, I2, pl, q2⟩ => ?_)
  refine thn (hh.run pins s2 σ H2 _ I2 q2) fun vu s3 ⟨u, H3, I3, pu, q3⟩ => ?_
  refine thn (hst.run pins s3 σ H3 _ I3 q3) fun vs s4 ⟨o, H4, I4, ps, q4⟩ => ?_
  obtain ⟨a, xs, ex, hx, h0, q⟩ := q4
  subst ex
  cases r1
  have I5 : Inv X pins σ H4 { s4 with heap := s4.heap.push { cls := .type "slice", data := .fields #[vl, vu, vs] } } := I4.kept (t' := s4.toks) fun b ob q => Heap.get?_push_of_some _ q
  obtain ⟨its, r, ht, hz⟩ := I5.list hx
  have hlen := r.length
  show wpAny (model X.prog X.w) X.A (subscriptTail e (.Slice lo hi st p3) (.ref a) (.ref s4.heap.objs.size)) (EP X pins σ Q) X.xe { s4 with heap := s4.heap.push { cls := .type "slice", data := .fields #[vl, vu, vs] } }
  refine tail_any (ops := [.ref a, .ref s4.heap.objs.size]) ht.isList.typeIs (PySem.slot_list_getitem.lookup) ?_ (hsub _ _)
  refine wpAny_getItem_list_slice ht.isList (Heap.IsSliceOf.new _ vl vu vs) pl pu ps h0 ?_ (by rw [List.size_toArray]; omega)
  have hp := pick_len (items := its.toArray) (lo := l) (hi := u) (st := o)
  obtain ⟨ys, hy, hm⟩ := pick_valsI r (sl4I l u o its.toArray.size)
  have hs : slicePick its.toArray l u o = ((sl4I l u o its.toArray.size).filterMap (its.toArray[·]?)).toArray := rfl
  rw [hs, List.size_toArray, ← hy.length, List.size_toArray, ← hlen] at hp
  rw [hs]
  have hm2 : ∀ y ∈ ys, ∃ i ∈ sl4I l u o xs.length, xs[i]? = some y := by rw [hlen, ← List.size_toArray]; exact hm
  refine ⟨.ref _, _, I5.laid (t' := s4.toks) (o := .lst ys) (fun b ob q => Heap.get?_push_of_some _ q) (Nat.le_refl _) ?_, rfl, q _ ys (I5.hok.fresh (Nat.le_refl _)) hm2 hp⟩
  exact ⟨Nat.le_trans hp hz, _, 0, hy, Heap.get?_push_size _ rfl⟩
theorem ksl4 (K : PySem.W.Frag) {X : Cx} {e : Expr} {lo hi st : Option Expr} {te : TE} {tl th ts : TO} {p3 pos : Pos} (he : PE X e te) (hl : PO X lo tl) (hh : PO X hi th) (hst : PO X st ts) (hK : X.K = K := by rfl)
    (hsub : ∀ a b : Addr, subscripted (.Slice lo hi st p3) false (.ref a) (.ref b) = operate [.ref a, .ref b] (getItem (.ref a) (.ref b)) := by intro _ _; with_unfolding_all rfl) :
    PE X (.Subscript e (.Slice lo hi st p3) pos) (tSl4 K te tl th ts) := by subst hK; exact pe_sl4 he hl hh hst hsub
/-- xs[:0:-1] leaves out the first -/
theorem bnd_back (n : Nat) : sliceBounds none (some 0) (some (-1)) (n + 1) = ((n : Int), 0, -1) := by
  unfold sliceBounds
  simp
  omega
theorem rng_back {n i : Nat} (h : i ∈ sliceRange (n : Int) 0 (-1)) : 0 < i := by
  unfold sliceRange at h
  obtain ⟨k, hk, rfl⟩ := List.mem_map.mp h
  rw [List.mem_range, if_neg (by omega)] at hk
  by_cases c : (n : Int) > 0
  · rw [if_pos c, show (- -1 : Int) = 1 from rfl, Int.ediv_one] at hk
    omega
  · rw [if_neg c] at hk
    simp at hk
theorem back_pos {n i : Nat} (h : i ∈ sl4I none (some 0) (some (-1)) n) : 0 < i := by
  cases n with
  | zero =>
    have e : sl4I none (some 0) (some (-1)) 0 = [] := by decide
    rw [e] at h; cases h
  | succ n =>
    unfold sl4I at h
    rw [bnd_back] at h
    exact rng_back h

end Lw
namespace Lw
open PySem PySem.Spec L2 FG
open PyProof.Rows hiding St
/-! ### data that may be compared and shown -/
def LayN (d : PyData) (N : Nat) : Prop := d.canLay0 = true ∧ d.depth ≤ N
theorem layAll {N : Nat} : ∀ {ds : List PyData}, (∀ d ∈ ds, LayN d N) → PyData.canLayAll0 ds = true ∧ PyData.depthAll ds ≤ N
  | [], _ => ⟨by simp only [PyData.canLayAll0], by simp only [PyData.depthAll]; omega⟩
  | d :: ds, h => by
    obtain ⟨a, b⟩ := h d (by simp)
    obtain ⟨c, e⟩ := layAll (ds := ds) fun x hx => h x (by simp [hx])
    exact ⟨by simp only [PyData.canLayAll0, a, c, Bool.and_self], by simp only [PyData.depthAll]; omega⟩
theorem LayN.tup {N : Nat} {ds : List PyData} (h : ∀ d ∈ ds, LayN d N) : LayN (.tuple ds) (N + 1) := by
  obtain ⟨a, b⟩ := layAll h
  exact ⟨by simp only [PyData.canLay0]; exact a, by simp only [PyData.depth]; omega⟩
theorem LayN.lst {N : Nat} {ds : List PyData} (h : ∀ d ∈ ds, LayN d N) : LayN (.list ds) (N + 1) := by
  obtain ⟨a, b⟩ := layAll h
  exact ⟨by simp only [PyData.canLay0]; exact a, by simp only [PyData.depth]; omega⟩
theorem LayN.more {d : PyData} {N M : Nat} (h : LayN d N) (g : N ≤ M) : LayN d M := ⟨h.1, Nat.le_trans h.2 g⟩
theorem LayN.sh {d : PyData} {N : Nat} (h : LayN d N) (g : N ≤ 60) : SeqAt.shaped d = true := by
  unfold SeqAt.shaped
  rw [Bool.and_eq_true, decide_eq_true_eq]
  exact ⟨h.1, by have := h.2; omega⟩
theorem lay_int (z : Int) : LayN (.int z) 0 := ⟨rfl, by simp only [PyData.depth]; omega⟩
theorem lay_str {z : Str} (h : nameS z = true) : LayN (.str z) 0 := by
  obtain ⟨a, _, _⟩ := name_let h
  refine ⟨?_, by simp only [PyData.depth]; omega⟩
  simp only [PyData.canLay0, PyData.strOk]
  rw [← Array.all_toList]
  refine List.all_eq_true.mpr fun x hx => ?_
  have h2 : 97 ≤ x ∧ x ≤ 122 := of_decide_eq_true (a x hx)
  exact decide_eq_true (by omega)
theorem lay_non : LayN .none 0 := ⟨rfl, by simp only [PyData.depth]; omega⟩
theorem Vd.lay {H : Hp} {v : V} {d : PyData} (h : Vd H v d) : LayN d 1 := by
  rcases h with ⟨rfl, rfl⟩ | ⟨z, rfl, rfl, _⟩ | ⟨q, f, o, rfl, eq, rfl, _⟩
  · exact lay_non.more (by omega)
  · exact (lay_int z).more (by omega)
  · exact LayN.tup (N := 0) fun d hd => by
      simp only [List.mem_cons, List.not_mem_nil, or_false] at hd
      rcases hd with rfl | rfl
      · exact lay_int _
      · exact lay_int _
def itemsD (vd : V → PyData) (kvs : List (L2.Key × V)) : List PyData := kvs.map fun p => .tuple [keyD p.1, vd p.2]
theorem items_sh {H : Hp} {vd : V → PyData} {kvs : List (L2.Key × V)} (hn : ∀ p ∈ kvs, ∃ z : Str, p.1 = .inr z ∧ nameS z = true) (hv : ∀ p ∈ kvs, Vd H p.2 (vd p.2)) : SeqAt.shaped (.list (itemsD vd kvs)) = true := by
  refine LayN.sh (LayN.lst (N := 2) fun d hd => ?_) (by omega)
  obtain ⟨p, hp, rfl⟩ := List.mem_map.mp hd
  refine LayN.tup (N := 1) fun d hd => ?_
  simp only [List.mem_cons, List.not_mem_nil, or_false] at hd
  rcases hd with rfl | rfl
  · obtain ⟨z, e, hz⟩ := hn p hp
    rw [e]; exact (lay_str hz).more (by omega)
  · exact (hv p hp).lay
theorem dp_items {K : PySem.W.Frag} {H : Hp} {vd : V → PyData} : ∀ {ts : List Addr} {kvs : List (L2.Key × V)}, Paired (fun (t : Addr) (q : L2.Key × V) => H t = some (.tup [kV q.1, q.2])) ts kvs → (∀ p ∈ kvs, Vd H p.2 (vd p.2)) → DpAll K H (ts.map V.ref) (itemsD vd kvs)
  | _, _, .nil, _ => .nil
  | _, _, .cons (a := t) (b := p) e r, hv => by
    refine .cons (.tup (SqT.of e) (.cons ?_ (.cons (hv _ (by simp)).dp .nil))) (dp_items r fun q hq => hv q (by simp [hq]))
    cases p.1 with
    | inl i => exact .int i
    | inr z => exact .str z
theorem okT_tup {N M : Nat} {ds : List PyData} (h : ∀ d ∈ ds, OkT d N M) : OkT (.tuple ds) ((N + 1) * ds.length) (M + 1) := by
  obtain ⟨a, b, c⟩ := all_ok h
  exact ⟨by simp only [okD]; exact a, by rw [PyData.bulk]; exact b, by rw [PyData.depth]; omega⟩
theorem okT_name {z : Str} (h : nameS z = true) : OkT (.str z) 6 0 := by
  obtain ⟨a, _, c⟩ := name_let h
  refine ⟨?_, ?_, by simp only [PyData.depth]; omega⟩
  · simp only [okD]
    refine List.all_eq_true.mpr fun x hx => ?_
    have h2 : 97 ≤ x ∧ x ≤ 122 := of_decide_eq_true (a x hx)
    exact decide_eq_true (Nat.lt_of_le_of_lt h2.2 (by decide))
  · simp only [PyData.bulk]; exact c
theorem okT_int {z : Int} (h : z.natAbs < 10000) : OkT (.int z) 0 0 := by
  have e38 : (10 : Nat) ^ 38 = 100000000000000000000000000000000000000 := by decide
  exact ⟨by simp only [okD, decide_eq_true_eq, e38]; omega, by simp only [PyData.bulk]; omega, by simp only [PyData.depth]; omega⟩
theorem okT_hand : OkT (.str "hand") 6 0 := okT_name (by decide +kernel)
theorem okT_room : OkT (.str "room") 6 0 := okT_name (by decide +kernel)
/-- a step that may be shown -/
def StOk (H : Hp) (vd : V → PyData) : St0 → Prop
  | .hand k v => (∃ z : Str, k = .inr z ∧ nameS z = true) ∧ Vd H v (vd v)
  | .room f o k v => f < 10000 ∧ o < 10000 ∧ k < 6 ∧ Vd H v (vd v)
theorem StOk.vd {H : Hp} {vd : V → PyData} {s : St0} (h : StOk H vd s) : Vd H s.val (vd s.val) := by
  cases s with
  | hand k v => exact h.2
  | room f o k v => exact h.2.2.2
theorem StOk.tk {H H' : Hp} {vd : V → PyData} {s : St0} (h : StOk H vd s) (k : TKq H H') : StOk H' vd s := by
  cases s with
  | hand a v => exact ⟨h.1, h.2.tk k⟩
  | room f o a v => exact ⟨h.1, h.2.1, h.2.2.1, h.2.2.2.tk k⟩
theorem StOk.ok {H : Hp} {vd : V → PyData} {s : St0} (h : StOk H vd s) : OkT (s.data vd) 15 2 := by
  cases s with
  | hand k v =>
    obtain ⟨⟨nm, e, hnm⟩, hv⟩ := h
    have h1 := okT_name hnm
    have h2 := hv.ok
    have h3 := okT_hand
    have hb : (PyData.str "hand").bulk = 4 := by simp only [PyData.bulk]; decide +kernel
    subst e
    refine ⟨?_, ?_, ?_⟩
    · simp only [St0.data, keyD, okD, okDs, Bool.and_true, Bool.and_eq_true]; exact ⟨h3.ok, h1.ok, h2.ok⟩
    · have := h1.b; have := h2.b
      simp only [St0.data, keyD, PyData.bulk, PyData.bulkAll] at *
      omega
    · have := h1.h; have := h2.h
      simp only [St0.data, keyD, PyData.depth, PyData.depthAll] at *; omega
  | room f o k v =>
    obtain ⟨h1, h2, h3, hv⟩ := h
    have h4 := okT_way h1 h2
    have h5 := hv.ok
    have h6 : OkT (.int (k : Nat)) 0 0 := okT_int (by omega)
    have h7 := okT_room
    have hb : (PyData.str "room").bulk = 4 := by simp only [PyData.bulk]; decide +kernel
    refine ⟨?_, ?_, ?_⟩
    · simp only [St0.data, okD, okDs, Bool.and_true, Bool.and_eq_true]; exact ⟨h7.ok, h4.ok, h6.ok, h5.ok⟩
    · have := h4.b; have := h5.b; have := h6.b
      simp only [St0.data, PyData.bulk, PyData.bulkAll] at *
      omega
    · have := h4.h; have := h5.h
      simp only [St0.data, PyData.depth, PyData.depthAll] at *; omega
/-- every step may be shown -/
theorem steps_st {H : Hp} {vd : V → PyData} {ps : List (Nat × Nat)} {kvs : List (L2.Key × V)} {l : List Tr} (hn : ∀ p ∈ kvs, ∃ z : Str, p.1 = .inr z ∧ nameS z = true) (hv : ∀ p ∈ kvs, Vd H p.2 (vd p.2)) (h6 : ∀ t ∈ l, t.2.2.length ≤ 6 ∧ t.1 < 10000 ∧ t.2.1 < 10000 ∧ ∀ v ∈ t.2.2, Vd H v (vd v)) :
    ∀ s ∈ stepsD vd ps kvs l, StOk H vd s := by
  intro s hs
  rcases List.mem_append.mp hs with z | z
  · obtain ⟨p, hp, rfl⟩ := List.mem_map.mp z
    have hp := (List.mem_filter.mp hp).1
    exact ⟨hn p hp, hv p hp⟩
  · obtain ⟨t, ht, z⟩ := List.mem_flatMap.mp z
    obtain ⟨c, hc, rfl⟩ := List.mem_map.mp z
    obtain ⟨h1, h2, h3, h4⟩ := h6 t (List.mem_filter.mp ht).1
    have hc := List.mem_of_mem_take (List.mem_filter.mp hc).1
    obtain ⟨hc1, hc2⟩ : c.1 ∈ t.2.2 ∧ c.2 < 6 := by
      have := List.mem_zipIdx (x := c.1) (i := c.2) (k := 0) (by simpa using hc)
      refine ⟨?_, by omega⟩
      obtain ⟨_, h5, h6⟩ := this
      rw [h6]; exact List.getElem_mem _
    exact ⟨h2, h3, hc2, h4 c.1 hc1⟩
theorem StL.dp {K : PySem.W.Frag} {H : Hp} {vd : V → PyData} : ∀ {ps : List Addr} {ss : List St0}, Paired (fun p s => StepAt H p s) ps ss → (∀ s ∈ ss, Vd H s.val (vd s.val)) → DpAll K H (ps.map V.ref) (ss.map fun s => s.data vd)
  | _, _, .nil, _ => .nil
  | _, _, .cons h r, hv => .cons (h.dp (hv _ (by simp))) (StL.dp r fun s hs => hv s (by simp [hs]))
theorem StL.shw {K : PySem.W.Frag} {H : Hp} {l : Addr} {ss : List St0} {vd : V → PyData} (x : StL K H l ss) (ok : ∀ s ∈ ss, StOk H vd s) (hl : ss.length ≤ 7000) : Shw K H (.ref l) (.list (ss.map fun s => s.data vd)) := by
  obtain ⟨ps, e, h⟩ := x
  obtain ⟨a, b, c⟩ := all_ok (N := 15) (M := 2) (ds := ss.map fun s => s.data vd) fun d hd => by
    obtain ⟨s, hs, rfl⟩ := List.mem_map.mp hd
    exact (ok s hs).ok
  rw [List.length_map] at b
  exact shw_listN e (StL.dp h fun s hs => (ok s hs).vd) a (by omega) (by omega)
theorem stepsD_congr {vd : V → PyData} {ps qs : List (Nat × Nat)} (h : ∀ p, p ∈ ps ↔ p ∈ qs) (kvs : List (L2.Key × V)) (l : List Tr) : stepsD vd ps kvs l = stepsD vd qs kvs l := by
  have e : ∀ d, inB ps d = inB qs d := inB_congr h
  have e1 : handD vd ps kvs = handD vd qs kvs := by
    unfold handD
    rw [show (fun p : L2.Key × V => inB ps (vd p.2)) = fun p => inB qs (vd p.2) from funext fun p => e _]
  have e2 : ∀ t n, cellsD vd ps t n = cellsD vd qs t n := fun t n => by
    unfold cellsD
    rw [show (fun c : V × Nat => inB ps (vd c.1)) = fun c => inB qs (vd c.1) from funext fun c => e _]
  have e3 : roomsD vd ps l = roomsD vd qs l := by
    unfold roomsD
    rw [show (fun t : Tr => decide ((t.1, t.2.1) ∉ ps)) = fun t => decide ((t.1, t.2.1) ∉ qs) from funext fun t => by rw [decide_eq_decide, h], show (fun t : Tr => cellsD vd ps t t.2.2.length) = fun t => cellsD vd qs t t.2.2.length from funext fun t => e2 t _]
  unfold stepsD
  rw [e1, e3]

end Lw
namespace Lw
open PySem PySem.Spec L2 FG
open PyProof.Rows hiding St
/-! ### whether both tell the same -/
theorem cut_one (xs : List V) : cutV xs (some 1) none = xs.tail := by
  show ((xs.drop (HT.sIx xs.length 0 (some ((1 : Nat) : Int)))).take (xs.length - HT.sIx xs.length 0 (some ((1 : Nat) : Int)))) = _
  rw [HT.sIx_nat]
  cases xs with
  | nil => simp
  | cons c r =>
    have : min 1 (c :: r).length = 1 := by rw [List.length_cons]; omega
    rw [this, List.length_cons]
    simp
theorem tail_pos {ts : List (Option Int)} (g : ts[0]? = some none) {f : Nat} (h : f ∈ (stand ts).tail) : 0 < f ∧ ts[f]? = some none := by
  refine ⟨?_, mem_stand.mp (List.mem_of_mem_tail h)⟩
  rcases Nat.eq_zero_or_pos f with rfl | h0
  · exfalso
    have hl : 0 < ts.length := (List.getElem?_eq_some_iff.mp g).1
    obtain ⟨t, ts', rfl⟩ : ∃ t ts', ts = t :: ts' := by
      cases ts with
      | nil => cases hl
      | cons t r => exact ⟨t, r, rfl⟩
    have nd := stand_nd (t :: ts')
    have e : ∃ r, stand (t :: ts') = 0 :: r := by
      have hm : (0 : Nat) ∈ stand (t :: ts') := mem_stand.mpr g
      unfold stand
      rw [List.length_cons, List.range_succ_eq_map, List.filter_cons, if_pos (by simpa using g)]
      exact ⟨_, rfl⟩
    obtain ⟨r, e⟩ := e
    rw [e] at nd h
    exact (List.nodup_cons.mp nd).1 h
  · exact h0
theorem pic_sh {H : Hp} {s : HSt} {cd : List V → List PyData} (h : ∀ r ∈ s.here, ∀ d ∈ cd r.cells, LayN d 1) : SeqAt.shaped (picD s cd) = true := by
  refine LayN.sh (N := 6) ?_ (by omega)
  refine LayN.tup (N := 5) fun d hd => ?_
  simp only [List.mem_cons, List.not_mem_nil, or_false] at hd
  rcases hd with rfl | rfl
  · exact (lay_int _).more (by omega)
  refine LayN.tup (N := 4) fun d hd => ?_
  obtain ⟨f, hf, rfl⟩ := List.mem_map.mp hd
  refine LayN.tup (N := 3) fun d hd => ?_
  simp only [List.mem_cons, List.not_mem_nil, or_false] at hd
  rcases hd with rfl | rfl | rfl
  · exact (lay_int _).more (by omega)
  · cases s.hs[f]?.getD none with
    | none => exact lay_non.more (by omega)
    | some i => exact (lay_int i).more (by omega)
  refine LayN.tup (N := 2) fun d hd => ?_
  obtain ⟨r, hr, rfl⟩ := List.mem_map.mp hd
  obtain ⟨h1, h2⟩ := mem_giv.mp hr
  have hh : r ∈ s.here := mem_here h1 (decide_eq_true (by rw [h2]; exact mem_stand.mp hf))
  exact LayN.tup (N := 1) fun d hd => h r hh d hd
theorem cells_dp {K : PySem.W.Frag} {H : Hp} {vd : V → PyData} : ∀ {vs : List V}, (∀ v ∈ vs, Vd H v (vd v)) → DpAll K H vs (vs.map vd)
  | [], _ => .nil
  | v :: vs, h => .cons (h v (by simp)).dp (cells_dp fun u hu => h u (by simp [hu]))
/-- hands in the heap -/
structure Dct (H : Hp) (s : HSt) (x : WSt) (e : Addr) (kv : List (L2.Key × V)) : Prop where
  ed : H e = some (.dK kv)
  hd : HdP x.rs kv
  n1 : e ∉ s.foot
  n2 : e ∉ x.foot
theorem Dct.kp {H H' : Hp} {s : HSt} {x : WSt} {e : Addr} {kv : List (L2.Key × V)} (y : Dct H s x e kv) (k : Kp [] H H') : Dct H' s x e kv := ⟨k _ _ y.ed (by simp), y.hd, y.n1, y.n2⟩
theorem new_nf {K : PySem.W.Frag} {H H' : Hp} {s : HSt} {x : WSt} {d e : Addr} {kvs : List (L2.Key × V)} (y : Scn K H s x d kvs) (k : Kp [] H H') (h : H' e = none) : e ∉ s.foot ∧ e ∉ x.foot := by
  refine ⟨fun z => ?_, fun z => ?_⟩
  · obtain ⟨o, eo, _⟩ := y.hw.ho.std e z
    rw [k _ _ eo (by simp)] at h; cases h
  · obtain ⟨o, eo, _⟩ := y.hw.wa.std e z
    rw [k _ _ eo (by simp)] at h; cases h

end Lw
namespace Lw
open PySem PySem.Spec L2 FG
open PyProof.Rows hiding St
/-! ### the kept rows, plainly: one queue, and rounds -/
section
variable {α κ : Type} [DecidableEq κ] (key : α → κ) (cd : α → List α)
def ins (L : List α) (r : α) : List α := if key r ∈ L.map key then L else L ++ [r]
def insAll (L rs : List α) : List α := rs.foldl (ins key) L
def SQ (l0 : List α) : Nat → List α
  | 0 => insAll key [] l0
  | i + 1 => match (SQ l0 i)[i]? with
    | some r => insAll key (SQ l0 i) (cd r)
    | none => SQ l0 i
theorem insAll_app (L a b : List α) : insAll key L (a ++ b) = insAll key (insAll key L a) b := List.foldl_append
theorem ins_pre (L : List α) (r : α) : L <+: ins key L r := by
  unfold ins
  split
  · exact List.prefix_refl _
  · exact List.prefix_append _ _
theorem insAll_pre : ∀ (rs L : List α), L <+: insAll key L rs
  | [], L => List.prefix_refl _
  | r :: rs, L => (ins_pre key L r).trans (insAll_pre rs (ins key L r))
theorem pre_get {L M : List α} (h : L <+: M) {i : Nat} (hi : i < L.length) : M[i]? = L[i]? := by
  obtain ⟨t, rfl⟩ := h
  exact List.getElem?_append_left hi
theorem pre_len {L M : List α} (h : L <+: M) : L.length ≤ M.length := h.length_le
variable {key cd}
theorem SQ_stop {l0 : List α} {i : Nat} (h : (SQ key cd l0 i).length ≤ i) : ∀ n, SQ key cd l0 (i + n) = SQ key cd l0 i
  | 0 => rfl
  | n + 1 => by
    have ih := SQ_stop h n
    show (match (SQ key cd l0 (i + n))[i + n]? with | some r => insAll key (SQ key cd l0 (i + n)) (cd r) | none => SQ key cd l0 (i + n)) = _
    rw [ih, List.getElem?_eq_none (by omega)]
theorem SQ_same {l0 : List α} {i j : Nat} (h : (SQ key cd l0 i).length ≤ i) (g : (SQ key cd l0 j).length ≤ j) : SQ key cd l0 i = SQ key cd l0 j := by
  rcases Nat.le_total i j with z | z
  · have := SQ_stop h (j - i)
    rw [Nat.add_sub_cancel' z] at this; exact this.symm
  · have := SQ_stop g (i - j)
    rw [Nat.add_sub_cancel' z] at this; exact this
theorem SQ_step {l0 : List α} {i : Nat} {r : α} (h : (SQ key cd l0 i)[i]? = some r) : SQ key cd l0 (i + 1) = insAll key (SQ key cd l0 i) (cd r) := by
  show (match (SQ key cd l0 i)[i]? with | some r => insAll key (SQ key cd l0 i) (cd r) | none => SQ key cd l0 i) = _
  rw [h]
/-- a round: all rows from the a-th on, at once -/
theorem SQ_round {l0 : List α} {a : Nat} (ha : a ≤ (SQ key cd l0 a).length) : insAll key (SQ key cd l0 a) (((SQ key cd l0 a).drop a).flatMap cd) = SQ key cd l0 (SQ key cd l0 a).length := by
  have key2 : ∀ n, a + n ≤ (SQ key cd l0 a).length → SQ key cd l0 (a + n) = insAll key (SQ key cd l0 a) ((((SQ key cd l0 a).drop a).take n).flatMap cd) := by
    intro n
    induction n with
    | zero => intro _; simp [insAll]
    | succ n ih =>
      intro h
      have e := ih (by omega)
      have pre : SQ key cd l0 a <+: SQ key cd l0 (a + n) := by rw [e]; exact insAll_pre key _ _
      have hg : (SQ key cd l0 a)[a + n]? = some (SQ key cd l0 a)[a + n] := List.getElem?_eq_getElem (by omega)
      rw [← Nat.add_assoc, SQ_step ((pre_get pre (by omega)).trans hg)]
      have ed : ((SQ key cd l0 a).drop a).take (n + 1) = ((SQ key cd l0 a).drop a).take n ++ [(SQ key cd l0 a)[a + n]] := by
        have hl : n < ((SQ key cd l0 a).drop a).length := by rw [List.length_drop]; omega
        rw [List.take_succ_eq_append_getElem hl, List.getElem_drop]
      rw [ed, List.flatMap_append, insAll_app, ← e]
      simp
  have h1 := key2 ((SQ key cd l0 a).length - a) (by omega)
  rw [List.take_of_length_le (by rw [List.length_drop]; exact Nat.le_refl _), Nat.add_sub_cancel' ha] at h1
  exact h1.symm
/-- what holds of all rows -/
structure Gd (key : α → κ) (size : α → Nat) (p : α → Prop) (L : List α) : Prop where
  nd : (L.map key).Nodup
  all : ∀ r ∈ L, p r
  ix : ∀ (j : Nat) (r : α), L[j]? = some r → size r ≤ j + 1
theorem Gd.ins {size : α → Nat} {p : α → Prop} {L : List α} {r : α} (g : Gd key size p L) (hp : p r) (hs : size r ≤ L.length + 1) : Gd key size p (Lw.ins key L r) := by
  unfold Lw.ins
  split
  · exact g
  · rename_i h
    refine ⟨by rw [List.map_append]; exact nd_snoc g.nd h, fun q hq => ?_, fun j q hq => ?_⟩
    · rcases List.mem_append.mp hq with z | z
      · exact g.all q z
      · rw [List.mem_singleton] at z; rw [z]; exact hp
    · by_cases hj : j < L.length
      · rw [List.getElem?_append_left hj] at hq; exact g.ix j q hq
      · rw [List.getElem?_append_right (by omega)] at hq
        have : j - L.length = 0 := by
          by_cases z : j - L.length = 0
          · exact z
          · rw [List.getElem?_eq_none (by simp; omega)] at hq; cases hq
        rw [this] at hq
        cases hq
        omega
theorem Gd.insAll {size : α → Nat} {p : α → Prop} : ∀ {rs L : List α}, Gd key size p L → (∀ r ∈ rs, p r ∧ size r ≤ L.length + 1) → Gd key size p (Lw.insAll key L rs)
  | [], _, g, _ => g
  | r :: rs, L, g, h => by
    refine Gd.insAll (rs := rs) (L := Lw.ins key L r) (g.ins (h r (by simp)).1 (h r (by simp)).2) fun q hq => ?_
    have := pre_len (ins_pre key L r)
    have h2 := h q (by simp [hq])
    exact ⟨h2.1, by omega⟩
theorem Gd.nil {size : α → Nat} {p : α → Prop} : Gd key size p [] := ⟨List.nodup_nil, (fun r h => by cases h), fun j r h => by cases h⟩
theorem SQ_good {size : α → Nat} {p : α → Prop} {l0 : List α} (h0 : ∀ r ∈ l0, p r ∧ size r ≤ 1) (hc : ∀ r, p r → ∀ q ∈ cd r, p q ∧ size q ≤ size r + 1) : ∀ i, Gd key size p (SQ key cd l0 i)
  | 0 => Gd.nil.insAll fun r hr => by have := h0 r hr; exact ⟨this.1, by simp; exact this.2⟩
  | i + 1 => by
    have ih := SQ_good h0 hc i
    cases e : (SQ key cd l0 i)[i]? with
    | none =>
      show Gd key size p (match (SQ key cd l0 i)[i]? with | some r => Lw.insAll key (SQ key cd l0 i) (cd r) | none => SQ key cd l0 i)
      rw [e]; exact ih
    | some r =>
      rw [SQ_step e]
      refine ih.insAll fun q hq => ?_
      have h1 := hc r (ih.all r (List.mem_of_getElem? e)) q hq
      have h2 := ih.ix i r e
      have h3 := (List.getElem?_eq_some_iff.mp e).1
      exact ⟨h1.1, by omega⟩
/-- things without double among others are no more than these -/
theorem nd_le : ∀ {l m : List κ}, l.Nodup → (∀ x ∈ l, x ∈ m) → l.length ≤ m.length
  | [], _, _, _ => Nat.zero_le _
  | a :: l, m, h, s => by
    obtain ⟨h1, h2⟩ := List.nodup_cons.mp h
    have ha := s a (by simp)
    have := nd_le (l := l) (m := m.erase a) h2 fun x hx => (List.mem_erase_of_ne (fun e => h1 (by rw [← e]; exact hx))).mpr (s x (by simp [hx]))
    rw [List.length_erase_of_mem ha] at this
    have : 0 < m.length := List.length_pos_of_mem ha
    rw [List.length_cons]; omega
end

end Lw
namespace Lw
open PySem PySem.Spec L2 FG
open PyProof.Rows hiding St
/-! ### rows of steps -/
abbrev Row := List St0
def wayOf : PyData → Nat × Nat
  | .tuple [.int f, .int o] => (f.toNat, o.toNat)
  | _ => (0, 0)
theorem wayOf_way (f o : Nat) : wayOf (wayD f o) = (f, o) := rfl
def lastS (r : Row) : St0 := r.getLast?.getD (.hand (.inl 0) .non)
def keyR (vd : V → PyData) (r : Row) : Nat × Nat := wayOf (vd (lastS r).val)
def roomT (R : List Tr) (p : Nat × Nat) : Tr := (R.find? fun t => decide ((t.1, t.2.1) = p)).getD (0, 0, [])
def candR (vd : V → PyData) (ps : List (Nat × Nat)) (R : List Tr) (r : Row) : List Row := (cellsD vd ps (roomT R (keyR vd r)) (roomT R (keyR vd r)).2.2.length).map fun s => r ++ [s]
theorem lastS_snoc (r : Row) (s : St0) : lastS (r ++ [s]) = s := by unfold lastS; rw [List.getLast?_append]; rfl
theorem roomT_rho {rs : List Rm} (kn : (rs.map fun r => (r.f, r.o)).Nodup) {r : Rm} (hr : r ∈ rs) : roomT (rs.map rho) (r.f, r.o) = rho r := by
  unfold roomT
  have e : (rs.map rho).find? (fun t => decide ((t.1, t.2.1) = (r.f, r.o))) = some (rho r) := by
    induction rs with
    | nil => cases hr
    | cons q rs ih =>
      rw [List.map_cons, List.nodup_cons] at kn
      rw [List.map_cons, List.find?_cons]
      rcases List.mem_cons.mp hr with z | z
      · rw [← z]
        have : decide (((rho r).1, (rho r).2.1) = (r.f, r.o)) = true := decide_eq_true rfl
        rw [this]
      · have : decide (((rho q).1, (rho q).2.1) = (r.f, r.o)) = false := decide_eq_false fun e => kn.1 (List.mem_map.mpr ⟨r, z, e.symm⟩)
        rw [this]
        exact ih kn.2 z
  rw [e]; rfl
def kk (p : Nat × Nat) : List L2.Key := [.inl (p.1 : Int), .inl (p.2 : Int)]
theorem kk_inj {p q : Nat × Nat} (h : kk p = kk q) : p = q := by
  unfold kk at h
  injection h with h1 h2
  injection h1 with h1
  injection h2 with h2 _
  injection h2 with h2
  exact Prod.ext (by omega) (by omega)
def rowsK (vd : V → PyData) (L : List Row) (as : List Addr) : List (List L2.Key × V) := List.zipWith (fun r a => (kk (keyR vd r), V.ref a)) L as
theorem rowsK_len {vd : V → PyData} {L : List Row} {as : List Addr} (h : as.length = L.length) : (rowsK vd L as).length = L.length := by
  unfold rowsK; rw [List.length_zipWith, h, Nat.min_self]
theorem rowsK_get {vd : V → PyData} {L : List Row} {as : List Addr} {i : Nat} {r : Row} {a : Addr} (h1 : L[i]? = some r) (h2 : as[i]? = some a) : (rowsK vd L as)[i]? = some (kk (keyR vd r), .ref a) := by
  unfold rowsK; rw [List.getElem?_zipWith, h1, h2]
theorem rowsK_keys {vd : V → PyData} : ∀ {L : List Row} {as : List Addr}, as.length = L.length → (rowsK vd L as).map (·.1) = (L.map (keyR vd)).map kk
  | [], [], _ => rfl
  | [], _ :: _, h => by cases h
  | _ :: _, [], h => by cases h
  | r :: L, a :: as, h => by
    have ih := rowsK_keys (vd := vd) (L := L) (as := as) (Nat.succ.inj h)
    show kk (keyR vd r) :: (rowsK vd L as).map (·.1) = _
    rw [ih]; rfl
theorem rowsK_nd {vd : V → PyData} {L : List Row} {as : List Addr} (h : as.length = L.length) (nd : (L.map (keyR vd)).Nodup) : ((rowsK vd L as).map (·.1)).Nodup := by
  rw [rowsK_keys h]
  exact nd_map (fun a b h => kk_inj h) nd
theorem rowsK_some {vd : V → PyData} {L : List Row} {as : List Addr} {i : Nat} {r : Row} {a : Addr} (h : as.length = L.length) (nd : (L.map (keyR vd)).Nodup) (h1 : L[i]? = some r) (h2 : as[i]? = some a) : valV (rowsK vd L as) (kk (keyR vd r)) = some (.ref a) :=
  val_nodup (rowsK_nd h nd) (kk (keyR vd r), .ref a) (List.mem_of_getElem? (rowsK_get h1 h2))
theorem rowsK_none {vd : V → PyData} {L : List Row} {as : List Addr} {p : Nat × Nat} (h : as.length = L.length) (n : p ∉ L.map (keyR vd)) : valV (rowsK vd L as) (kk p) = none := by
  cases e : valV (rowsK vd L as) (kk p) with
  | none => rfl
  | some v =>
    exfalso
    have : kk p ∈ (rowsK vd L as).map (·.1) := by
      unfold valV at e
      rw [Option.map_eq_some_iff] at e
      obtain ⟨kv, h1, _⟩ := e
      exact List.mem_map.mpr ⟨kv, List.mem_of_find?_eq_some h1, of_decide_eq_true (List.find?_some (p := fun kv : List L2.Key × V => decide (kv.1 = kk p)) h1)⟩
    rw [rowsK_keys h] at this
    obtain ⟨q, hq, e2⟩ := List.mem_map.mp this
    exact n (kk_inj e2 ▸ hq)
theorem rowsK_has {vd : V → PyData} {L : List Row} {as : List Addr} {p : Nat × Nat} (h : as.length = L.length) (nd : (L.map (keyR vd)).Nodup) (m : p ∈ L.map (keyR vd)) : (valV (rowsK vd L as) (kk p)).isSome = true := by
  obtain ⟨r, hr, rfl⟩ := List.mem_map.mp m
  obtain ⟨i, hi⟩ := List.mem_iff_getElem?.mp hr
  have hil := (List.getElem?_eq_some_iff.mp hi).1
  rw [rowsK_some h nd hi (List.getElem?_eq_getElem (by omega : i < as.length))]; rfl
theorem rowsK_snoc {vd : V → PyData} {L : List Row} {as : List Addr} {r : Row} {a : Addr} (h : as.length = L.length) : rowsK vd L as ++ [(kk (keyR vd r), .ref a)] = rowsK vd (L ++ [r]) (as ++ [a]) := by
  unfold rowsK
  rw [List.zipWith_append h.symm]; rfl
/-- a row whose steps all lead to inner rooms -/
structure RP (H : Hp) (vd : V → PyData) (ps : List (Nat × Nat)) (r : Row) : Prop where
  ne : r ≠ []
  ok : ∀ s ∈ r, Vd H s.val (vd s.val) ∧ inB ps (vd s.val) = true
theorem Vd.inn {H : Hp} {v : V} {d : PyData} {ps : List (Nat × Nat)} (h : Vd H v d) (b : inB ps d = true) : ∃ (q : Addr) (f o : Nat), v = .ref q ∧ H q = some (.tup [.int (f : Int), .int (o : Int)]) ∧ d = wayD f o ∧ (f, o) ∈ ps := by
  rcases h with ⟨_, rfl⟩ | ⟨z, _, rfl, _⟩ | ⟨q, f, o, rfl, eq, rfl, _⟩
  · rw [inB_no (.inl rfl)] at b; cases b
  · rw [inB_no (.inr ⟨z, rfl⟩)] at b; cases b
  · rw [inB_way] at b
    exact ⟨q, f, o, rfl, eq, rfl, of_decide_eq_true b⟩
theorem lastS_mem {r : Row} (h : r ≠ []) : lastS r ∈ r := by
  unfold lastS
  rw [List.getLast?_eq_some_getLast h]
  exact List.getLast_mem h
/-- what a row leads to -/
theorem RP.to {H : Hp} {vd : V → PyData} {ps : List (Nat × Nat)} {r : Row} (h : RP H vd ps r) : ∃ (q : Addr) (f o : Nat), (lastS r).val = .ref q ∧ H q = some (.tup [.int (f : Int), .int (o : Int)]) ∧ keyR vd r = (f, o) ∧ (f, o) ∈ ps := by
  obtain ⟨a, b⟩ := h.ok _ (lastS_mem h.ne)
  obtain ⟨q, f, o, e1, e2, e3, e4⟩ := a.inn b
  exact ⟨q, f, o, e1, e2, by unfold keyR; rw [e3, wayOf_way], e4⟩
theorem RP.one {H : Hp} {vd : V → PyData} {ps : List (Nat × Nat)} {s : St0} (h : Vd H s.val (vd s.val)) (b : inB ps (vd s.val) = true) : RP H vd ps [s] := ⟨by simp, fun t ht => by rw [List.mem_singleton] at ht; rw [ht]; exact ⟨h, b⟩⟩
theorem RP.snoc {H : Hp} {vd : V → PyData} {ps : List (Nat × Nat)} {r : Row} {s : St0} (x : RP H vd ps r) (h : Vd H s.val (vd s.val)) (b : inB ps (vd s.val) = true) : RP H vd ps (r ++ [s]) := ⟨by simp, fun t ht => by
  rcases List.mem_append.mp ht with z | z
  · exact x.ok t z
  · rw [List.mem_singleton] at z; rw [z]; exact ⟨h, b⟩⟩
theorem steps_in {vd : V → PyData} {ps : List (Nat × Nat)} {kvs : List (L2.Key × V)} {l : List Tr} : ∀ s ∈ stepsD vd ps kvs l, inB ps (vd s.val) = true := by
  intro s hs
  rcases List.mem_append.mp hs with z | z
  · obtain ⟨p, hp, rfl⟩ := List.mem_map.mp z
    exact (List.mem_filter.mp hp).2
  · obtain ⟨t, _, z⟩ := List.mem_flatMap.mp z
    obtain ⟨c, hc, rfl⟩ := List.mem_map.mp z
    exact (List.mem_filter.mp hc).2
theorem cells_in {vd : V → PyData} {ps : List (Nat × Nat)} {t : Tr} {n : Nat} : ∀ s ∈ cellsD vd ps t n, inB ps (vd s.val) = true ∧ s.val ∈ t.2.2 := by
  intro s hs
  obtain ⟨c, hc, rfl⟩ := List.mem_map.mp hs
  obtain ⟨h1, h2⟩ := List.mem_filter.mp hc
  refine ⟨h2, ?_⟩
  have := List.mem_zipIdx (x := c.1) (i := c.2) (k := 0) (by simpa using List.mem_of_mem_take h1)
  obtain ⟨_, h5, h6⟩ := this
  show c.1 ∈ _
  rw [h6]; exact List.getElem_mem _
theorem candR_congr {vd : V → PyData} {ps qs : List (Nat × Nat)} {R : List Tr} (h : ∀ p, p ∈ ps ↔ p ∈ qs) : candR vd ps R = candR vd qs R := by
  funext r
  unfold candR cellsD
  rw [show (fun c : V × Nat => inB ps (vd c.1)) = fun c => inB qs (vd c.1) from funext fun c => inB_congr h _]

end Lw
namespace Lw
open PySem PySem.Spec L2 FG
open PyProof.Rows hiding St
/-! ### the kept rows in the heap -/
structure Fnd (K : PySem.W.Frag) (H0 H : Hp) (vd : V → PyData) (d ln : Addr) (as : List Addr) (L : List Row) : Prop where
  ed : H d = some (.dT (rowsK vd L as))
  el : H ln = some (.lst (L.map fun r => (lastS r).val))
  la : as.length = L.length
  rw : Paired (fun a r => StL K H a r) as L
  fr : ∀ a ∈ as, H0 a = none
  nd : as.Nodup
  n1 : d ∉ as
  n2 : ln ∉ as
theorem Fnd.kp {K : PySem.W.Frag} {H0 H H' : Hp} {vd : V → PyData} {d ln : Addr} {as : List Addr} {L : List Row} (x : Fnd K H0 H vd d ln as L) (k : Kp [] H H') : Fnd K H0 H' vd d ln as L :=
  ⟨k _ _ x.ed (by simp), k _ _ x.el (by simp), x.la, Paired.mapP x.rw fun a r z => z.kp k, x.fr, x.nd, x.n1, x.n2⟩
/-- one row more -/
theorem Fnd.put {K : PySem.W.Frag} {H0 H : Hp} {vd : V → PyData} {d ln a : Addr} {as ps : List Addr} {L : List Row} {r : Row} (x : Fnd K H0 H vd d ln as L) (ha : H a = none) (ha0 : H0 a = none) (hps : Paired (fun p s => StepAt H p s) ps r) :
    Fnd K H0 (upd (upd (upd H a (.lst (ps.map V.ref))) d (.dT (rowsK vd (L ++ [r]) (as ++ [a])))) ln (.lst ((L.map fun r => (lastS r).val) ++ [(lastS r).val]))) vd d ln (as ++ [a]) (L ++ [r]) := by
  have nda : d ≠ a := ne_of_none x.ed ha
  have nla : ln ≠ a := ne_of_none x.el ha
  have ndl : d ≠ ln := ne_of x.ed x.el (fun z => by cases z)
  have tk : TKq H (upd (upd (upd H a (.lst (ps.map V.ref))) d (.dT (rowsK vd (L ++ [r]) (as ++ [a])))) ln (.lst ((L.map fun r => (lastS r).val) ++ [(lastS r).val]))) := fun b xs e => by
    rw [upd_ne (fun z => by rw [z, x.el] at e; cases e), upd_ne (fun z => by rw [z, x.ed] at e; cases e), upd_ne (ne_of_none e ha)]; exact e
  have old : ∀ b o, H b = some o → b ≠ d → b ≠ ln → upd (upd (upd H a (.lst (ps.map V.ref))) d (.dT (rowsK vd (L ++ [r]) (as ++ [a])))) ln (.lst ((L.map fun r => (lastS r).val) ++ [(lastS r).val])) b = some o := fun b o e n1 n2 => by
    rw [upd_ne n2, upd_ne n1, upd_ne (ne_of_none e ha)]; exact e
  have inAs : ∀ b ∈ as, ∃ o, H b = some o := fun b hb => by
    obtain ⟨j, y, _, _, ⟨ps', e, _⟩⟩ := LiI.paired_ix x.rw hb
    exact ⟨_, e⟩
  refine ⟨by rw [upd_ne ndl, upd_same], by rw [upd_same, List.map_append]; rfl, by rw [List.length_append, List.length_append, x.la]; rfl, ?_, fun b hb => ?_, ?_, fun hb => ?_, fun hb => ?_⟩
  · refine Paired.snoc ?_ ⟨ps, by rw [upd_ne nla.symm, upd_ne nda.symm, upd_same], Paired.mapP hps fun p s z => z.tk tk⟩
    have : ∀ {as' : List Addr} {L' : List Row}, (∀ b ∈ as', b ∈ as) → Paired (fun a r => StL K H a r) as' L' → Paired (fun b r' => StL K (upd (upd (upd H a (.lst (ps.map V.ref))) d (.dT (rowsK vd (L ++ [r]) (as ++ [a])))) ln (.lst ((L.map fun r => (lastS r).val) ++ [(lastS r).val]))) b r') as' L' := by
      intro as' L' hs pr
      induction pr with
      | nil => exact .nil
      | @cons b r' bs rs hb hr ih =>
        refine .cons ?_ (ih fun c hc => hs c (by simp [hc]))
        have hm := hs b (by simp)
        obtain ⟨ps', e, z⟩ := hb
        exact ⟨ps', old b _ e (fun z => x.n1 (z ▸ hm)) (fun z => x.n2 (z ▸ hm)), Paired.mapP z fun p s z => z.tk tk⟩
    exact this (fun _ h => h) x.rw
  · rcases List.mem_append.mp hb with z | z
    · exact x.fr b z
    · rw [List.mem_singleton] at z; rw [z]; exact ha0
  · refine nd_snoc x.nd fun hb => ?_
    obtain ⟨o, e⟩ := inAs a hb
    rw [ha] at e; cases e
  · rcases List.mem_append.mp hb with z | z
    · exact x.n1 z
    · rw [List.mem_singleton] at z; exact nda z
  · rcases List.mem_append.mp hb with z | z
    · exact x.n2 z
    · rw [List.mem_singleton] at z; exact nla z
def rowsOf (vd : V → PyData) (hs ts : List (Option Int)) (R : List Tr) (f : Nat) (kvs : List (L2.Key × V)) (i : Nat) : List Row :=
  SQ (keyR vd) (candR vd (insP hs ts R f) R) ((stepsD vd (insP hs ts R f) kvs (allR ts R)).map fun s => [s]) i
def spKept (K : PySem.W.Frag) : Sp := fun vs H Q _ => ∃ (s : HSt) (f : Nat) (d : Addr) (kvs : List (L2.Key × V)) (vd : V → PyData), vs = [.ref s.p, nint f, .ref d] ∧ HoAt (CH K) H s ∧ s.rs.length ≤ 1000 ∧ s.ts[f]? = some none ∧ 0 < f ∧ HOk H s d kvs ∧
  (∀ p ∈ kvs, Vd H p.2 (vd p.2)) ∧ (∀ r ∈ s.here, ∀ v ∈ r.cells, Vd H v (vd v)) ∧
  ∀ e ln H' as i, H e = none → Kp [] H H' → (rowsOf vd s.hs s.ts (s.rs.map rho) f kvs i).length ≤ i → Fnd K H H' vd e ln as (rowsOf vd s.hs s.ts (s.rs.map rho) f kvs i) → Q (.ref e) H'

end Lw
namespace Lw
open PySem PySem.Spec L2 FG
open PyProof.Rows hiding St
section
variable {P : Program} {w : World} {K : PySem.W.Frag} {mg : Str → Option Value} {base : Heap}
theorem tkq_dT {H : Hp} {a : Addr} {xs ys : List (List L2.Key × V)} (e : H a = some (.dT xs)) : TKq H (upd H a (.dT ys)) := fun b zs h => (upd_ne (ne_of h e (by intro c; cases c))).trans h
/-- the last of a tuple's things -/
theorem step_last {K : PySem.W.Frag} {H : Hp} {p : Addr} {s : St0} (h : StepAt H p s) : ∃ xs, SqT K H p xs ∧ atI xs (-1) = some s.val := by
  cases s with
  | hand k v => exact ⟨_, SqT.of h, rfl⟩
  | room f o k v => obtain ⟨q, e, _⟩ := h; exact ⟨_, SqT.of e, rfl⟩
theorem insP_len (hs ts : List (Option Int)) (R : List Tr) (f n : Nat) (h : R.length ≤ n) (hl : (stand ts).length ≤ 101) : (insP hs ts R f).length ≤ n * 101 := by
  unfold insP
  rw [List.length_map]
  have h1 := flat_len R n h (stand ts)
  have h2 : n * (stand ts).length ≤ n * 101 := Nat.mul_le_mul_left _ hl
  exact Nat.le_trans (List.length_filter_le _ _) (Nat.le_trans h1 h2)
theorem ok_kept (T : Tx K mg) {fd : FuncData} (F : Fun K "kept" "kept" s_kept (He.ga K "kept") fd) (c_need_ending : Cal P w K mg base 5 "need_ending" (spNeedEnd K)) (c_rooms_inside : Cal P w K mg base 6 "rooms_inside" (spInside K)) (c_steps_in : Cal P w K mg base 6 "steps_in" (spStepsIn K)) (c_steps_from : Cal P w K mg base 5 "steps_from" (spStepsFrom K)) :
    FnG P w K mg base 7 (He.ga K "kept") fd ["house", "frame", "hands"] (spKept K) := by
  refine FnG.of F sc_kept (fun vs H Q E h => ?_) (fun cdv A outer sh H vs Q E hr h => ?_)
  · obtain ⟨s, f, d, kvs, vd, rfl, _⟩ := h; rfl
  · obtain ⟨s, f, d, kvs, vd, rfl, ho, hl, hup, hf0, hd, hkv, hcv, q⟩ := h
    have wf := ho.wf
    have wl := wf.len
    have ws := wf.small
    have slen := stand_len s.ts
    obtain ⟨R, eR⟩ : ∃ R, R = s.rs.map rho := ⟨_, rfl⟩
    obtain ⟨ip, eip⟩ : ∃ ip, ip = insP s.hs s.ts R f := ⟨_, rfl⟩
    have ipl : ip.length ≤ 101000 := by rw [eip]; exact insP_len _ _ _ _ 1000 (by rw [eR, List.length_map]; exact hl) (by omega)
    refine ⟨_, pss_cons (ps_expr (gc c_need_ending (hr.mono (by decide)) takes0 (pa_cons (pv 0) (pa_cons (pv 1) (pa_cons (pv 2) (pa_nil))))))
      (pss_cons (ps_set (i := 3) sc_kept.nd rfl (by first | exact Or.inl rfl | exact Or.inr rfl) (gc c_rooms_inside (hr.mono (by decide)) takes0 (pa_cons (pv 0) (pa_cons (pv 1) (pa_nil)))))
      (pss_cons (ps_set (i := 4) sc_kept.nd rfl (by first | exact Or.inl rfl | exact Or.inr rfl) (pe_dnewT))
      (pss_cons (ps_set (i := 5) sc_kept.nd rfl (by first | exact Or.inl rfl | exact Or.inr rfl) (pe_lst (pa_nil)))
      (pss_cons (ps_for (passes_of rfl) rfl (kiL K (gc c_steps_in (hr.mono (by decide)) takes0 (pa_cons (pv 0) (pa_cons (pv 2) (pa_cons (pv 3) (pa_nil)))))) (pg_name (i := 6) sc_kept.nd rfl (by first | exact Or.inl rfl | exact Or.inr rfl))
        (pss_one (ps_if (pt_cmp (pc_dnotin hr.hu (pe_ix (kixT K) (pv 6) (pe_un un_neg (pe_int)) (fun _ _ => rfl)) (pv 4))) (pss_cons (ps_dput hr.hu (pv 4) (pe_ix (kixT K) (pv 6) (pe_un un_neg (pe_int)) (fun _ _ => rfl)) (pe_lst (pa_cons (pv 6) (pa_nil))) rfl)
      (pss_one (ps_expr (kbm K PySem.F.plainAttrs_list PySem.F.slot_list_append PySem.F.type_list_append mt_append (pv 5) (pa_cons (pe_ix (kixT K) (pv 6) (pe_un un_neg (pe_int)) (fun _ _ => rfl)) (pa_nil)))))) (pss_nil))))
      (pss_cons (ps_set (i := 7) sc_kept.nd rfl (by first | exact Or.inl rfl | exact Or.inr rfl) (pe_int))
      (pss_cons (ps_while (passes_of rfl) (pt_cmpR op_lt (pv 7) (pe_callB (klen K) (by rfl) T.z_len PySem.boot_len (pa_cons (pv 5) (pa_nil))) (by first | exact nomark _ | rfl)) (pss_cons (ps_for (passes_of rfl) rfl (kiL K (gc c_steps_from (hr.mono (by decide)) takes0 (pa_cons (pv 0) (pa_cons (pe_ix (kixL K) (pv 5) (pv 7) (fun _ _ => rfl)) (pa_cons (pv 3) (pa_nil)))))) (pg_name (i := 6) sc_kept.nd rfl (by first | exact Or.inl rfl | exact Or.inr rfl))
        (pss_one (ps_if (pt_cmp (pc_dnotin hr.hu (pe_ix (kixT K) (pv 6) (pe_un un_neg (pe_int)) (fun _ _ => rfl)) (pv 4))) (pss_cons (ps_dput hr.hu (pv 4) (pe_ix (kixT K) (pv 6) (pe_un un_neg (pe_int)) (fun _ _ => rfl)) (pe_op op_cat (pe_dget hr.hu (pv 4) (pe_ix (kixL K) (pv 5) (pv 7) (fun _ _ => rfl)) (fun _ _ => rfl)) (pe_lst (pa_cons (pv 6) (pa_nil)))) rfl)
      (pss_one (ps_expr (kbm K PySem.F.plainAttrs_list PySem.F.slot_list_append PySem.F.type_list_append mt_append (pv 5) (pa_cons (pe_ix (kixT K) (pv 6) (pe_un un_neg (pe_int)) (fun _ _ => rfl)) (pa_nil)))))) (pss_nil))))
      (pss_one (ps_set (i := 7) sc_kept.nd rfl (by first | exact Or.inl rfl | exact Or.inr rfl) (pe_op op_add (pv 7) (pe_int))))))
      (pss_one (ps_ret (pv 4))))))))), ?_⟩
    refine ⟨_, rfl, _, rfl, _, rfl, s, f, d, kvs, rfl, ho, hup, hf0, hd, fun H1 k1 => ?_⟩
    refine ⟨_, rfl, _, rfl, s, f, rfl, ho.kp0 k1, hl, fun a H2 ps ha k2 hps ea => ?_⟩
    rw [← eR, ← eip] at hps
    have k02 := k1.trans k2
    refine fun e he => ⟨by decide, fun ln hln => ?_⟩
    have ka := (Kp.refl (S := []) (H := H2)).new (o := .dT []) he
    have nle : e ≠ ln := fun z => by rw [← z, upd_same] at hln; cases hln
    have f3 : Fnd K H (upd (upd H2 e (.dT [])) ln (.lst [])) vd e ln [] [] := ⟨by rw [upd_ne nle, upd_same]; rfl, upd_same, rfl, .nil, (fun _ z => by cases z), List.nodup_nil, (fun z => by cases z), (fun z => by cases z)⟩
    have k23 : Kp [] H2 (upd (upd H2 e (.dT [])) ln (.lst [])) := ka.new hln
    have heH : H e = none := k02.free he
    have hlnH : H ln = none := (k02.trans ka).free hln
    generalize upd (upd H2 e (.dT [])) ln (.lst []) = H3 at *
    have k03 := k02.trans k23
    have ea3 := k23 _ _ ea (by simp)
    have nea : e ≠ a := fun z => by rw [← z] at ea; rw [he] at ea; cases ea
    have nlna : ln ≠ a := fun z => by rw [← z] at ea; have := (k02.trans ka); exact absurd (ka _ _ ea (by simp)) (by rw [hln]; exact fun c => by cases c)
    refine ⟨_, rfl, _, rfl, _, rfl, s, d, a, kvs, ps, vd, rfl, ho.kp0 k03, hl, (hd.kp k03).e, by have := hd.ln; omega, hd.nf, ea3, fun p hp => (hkv p hp).tk k03.tkq, fun r hr v hv => (hcv r hr v hv).tk k03.tkq, fun l H4 hl4 k4 st4 => ?_⟩
    rw [← eR, stepsD_congr hps] at st4
    have f4 := f3.kp k4
    have ea4 := k4 _ _ ea3 (by simp)
    have k04 := k03.trans k4
    -- all steps
    obtain ⟨ss, ess⟩ : ∃ ss, ss = stepsD vd ip kvs (allR s.ts R) := ⟨_, rfl⟩
    rw [← ess] at st4
    obtain ⟨pl, epl, ppl⟩ := id st4
    have tkH : ∀ {H' : Hp}, Kp [e, ln] H4 H' → TKq H4 H' := fun k b xs eb => k b _ eb fun z => by
      rcases List.mem_cons.mp z with z | z
      · rw [z, f4.ed] at eb; cases eb
      · rw [List.mem_singleton] at z; rw [z, f4.el] at eb; cases eb
    have kH : ∀ {H' : Hp}, Kp [e, ln] H4 H' → Kp [] H H' := fun k b o eb _ => k b o (k04 b o eb (by simp)) fun z => by
      rcases List.mem_cons.mp z with z | z
      · rw [z, heH] at eb; cases eb
      · rw [List.mem_singleton] at z; rw [z, hlnH] at eb; cases eb
    have nla : l ≠ e ∧ l ≠ ln := ⟨fun z => (by rw [z, f3.ed] at hl4; cases hl4), fun z => (by rw [z, f3.el] at hl4; cases hl4)⟩
    have rp1 : ∀ s' ∈ ss, RP H vd ip [s'] := fun s' hs' => by
      rw [ess] at hs'
      refine RP.one ?_ (steps_in s' hs')
      rcases List.mem_append.mp hs' with z | z
      · obtain ⟨p, hp, rfl⟩ := List.mem_map.mp z
        exact hkv p (List.mem_filter.mp hp).1
      · obtain ⟨t, ht, z⟩ := List.mem_flatMap.mp z
        obtain ⟨g, hg, ht2⟩ := List.mem_flatMap.mp (List.mem_filter.mp ht).1
        rw [eR] at ht2
        obtain ⟨r, hr, rfl⟩ := List.mem_map.mp (List.mem_filter.mp ht2).1
        have hg2 : r.f = g := of_decide_eq_true (List.mem_filter.mp ht2).2
        have hh : r ∈ s.here := mem_here hr (decide_eq_true (by rw [hg2]; exact mem_stand.mp hg))
        exact hcv r hh _ (cells_in s' z).2
    refine ⟨l, rfl, ⟨_, SqL.of epl⟩, for_list (K := K) (a := l) (xs := pl.map V.ref) (fun i σ H' => ∃ v6 as, σ = [some (.ref s.p), some (nint f), some (.ref d), some (.ref a), some (.ref e), some (.ref ln), v6, none] ∧ Kp [e, ln] H4 H' ∧ Fnd K H H' vd e ln as (insAll (keyR vd) [] ((ss.take i).map fun s => [s])))
      ⟨_, [], rfl, Kp.refl, f4⟩ (fun i σ H' _ ⟨_, _, _, z, _⟩ => SqL.of (z _ _ epl (by simp [nla.1, nla.2]))) ?_ ?_⟩
    · rintro i x σ H5 hx ⟨v6, as, rfl, k5, f5⟩
      rw [List.getElem?_map] at hx
      obtain ⟨p, hp, rfl⟩ := Option.map_eq_some_iff.mp hx
      obtain ⟨st, hst, hat⟩ := LiI.paired_get ppl hp
      have hat5 := hat.tk (tkH k5)
      have rp := rp1 st (List.mem_of_getElem? hst)
      obtain ⟨q', f', o', ev, eq, ek, hin⟩ := rp.to
      have ev : st.val = .ref q' := ev
      have k05 := kH k5
      have eq5 := k05 _ _ eq (by simp)
      obtain ⟨xs, hxs, hlast⟩ := step_last (K := K) hat5
      have etk : (ss.take (i + 1)).map (fun s => [s]) = (ss.take i).map (fun s => [s]) ++ [[st]] := by
        obtain ⟨hi, eg⟩ := List.getElem?_eq_some_iff.mp hst
        rw [List.take_succ_eq_append_getElem hi, eg, List.map_append]; rfl
      have gd : Gd (keyR vd) List.length (RP H vd ip) (insAll (keyR vd) [] ((ss.take i).map fun s => [s])) := Gd.nil.insAll fun r hr => by
        obtain ⟨s', hs', rfl⟩ := List.mem_map.mp hr
        exact ⟨rp1 s' (List.mem_of_mem_take hs'), by simp⟩
      have lenL : (insAll (keyR vd) [] ((ss.take i).map fun s => [s])).length ≤ 101000 := by
        have := nd_le (m := ip) gd.nd fun k hk => by
          obtain ⟨r, hr, rfl⟩ := List.mem_map.mp hk
          obtain ⟨_, _, _, _, _, e1, e2⟩ := (gd.all r hr).to
          rw [e1]; exact e2
        rw [List.length_map] at this; omega
      have einc : insAll (keyR vd) [] ((ss.take (i + 1)).map fun s => [s]) = ins (keyR vd) (insAll (keyR vd) [] ((ss.take i).map fun s => [s])) [st] := by rw [etk, insAll_app]; rfl
      rw [einc]
      generalize insAll (keyR vd) [] ((ss.take i).map fun s => [s]) = L at *
      have dg : DGet H5 e (.ref q') (valV (rowsK vd L as) (kk (f', o'))) := DGet.t (k := kk (f', o')) f5.ed eq5
      refine ⟨_, rfl, _, rfl, p, xs, _, _, rfl, rfl, hxs, hlast, _, rfl, e, _, rfl, by rw [ev]; exact dg, ?_⟩
      by_cases hk : (f', o') ∈ L.map (keyR vd)
      · rw [rowsK_has f5.la gd.nd hk]
        refine ⟨_, rfl, iteF ⟨_, as, rfl, k5, ?_⟩⟩
        unfold ins
        rw [ek, if_pos hk]; exact f5
      · rw [rowsK_none f5.la hk]
        refine ⟨_, rfl, iteT ?_⟩
        refine ⟨_, rfl, (by show 1 ≤ sizeLine; decide), fun ra hra => ?_⟩
        have kra := (Kp.refl (S := []) (H := H5)).new (o := .lst [.ref p]) hra
        have e5d := kra _ _ f5.ed (by simp)
        have e5l := kra _ _ f5.el (by simp)
        have hxs6 := step_last (K := K) (hat5.tk kra.tkq)
        obtain ⟨ys, hys, hlast2⟩ := hxs6
        have big : (200000 : Nat) < sizeLine := by decide
        refine ⟨_, rfl, _, rfl, _, rfl, p, ys, _, _, rfl, rfl, hys, hlast2, e, _, rfl, by rw [ev]; exact DPut.t (k := kk (f', o')) e5d (kra _ _ eq5 (by simp)) (by rw [rowsK_len f5.la]; omega), ?_⟩
        have nel : e ≠ ln := ne_of f5.ed f5.el (fun z => by cases z)
        rw [putK_new _ (rowsK_none f5.la hk), ← ek, rowsK_snoc f5.la]
        have hyp : ∃ ys, SqT K (upd (upd H5 ra (.lst [.ref p])) e (.dT (rowsK vd (L ++ [[st]]) (as ++ [ra])))) p ys ∧ atI ys (-1) = some st.val := step_last ((hat5.tk kra.tkq).tk (tkq_dT e5d))
        obtain ⟨zs, hzs, hlast3⟩ := hyp
        refine ⟨_, rfl, .inl ⟨rfl, _, SqL.of ((upd_ne nel.symm).trans e5l)⟩, _, rfl, _, rfl, p, zs, _, _, rfl, rfl, hzs, hlast3, ln, _, _, rfl, rfl, (upd_ne nel.symm).trans e5l, (by rw [List.length_map]; omega), ?_⟩
        have fp := f5.put (ps := [p]) (r := [st]) hra (k05.free hra) (.cons hat5 .nil)
        have ei : ins (keyR vd) L [st] = L ++ [[st]] := by unfold ins; rw [ek, if_neg hk]
        rw [ei]
        refine ⟨_, as ++ [ra], rfl, fun b o eb hb => ?_, fp⟩
        have n1 : b ≠ e := fun z => hb (by simp [z])
        have n2 : b ≠ ln := fun z => hb (by simp [z])
        rw [upd_ne n2, upd_ne n1, upd_ne (ne_of_none (k5 b o eb hb) hra)]
        exact k5 b o eb hb
    · rintro σ H5 ⟨v6, as, rfl, k5, f5⟩
      have lpl : (pl.map V.ref).length = ss.length := by rw [List.length_map]; exact Paired.length ppl
      rw [lpl, List.take_of_length_le (Nat.le_refl _)] at f5
      have eS0 : insAll (keyR vd) [] (ss.map fun s => [s]) = rowsOf vd s.hs s.ts R f kvs 0 := by rw [ess, eip]; rfl
      rw [eS0] at f5
      have good : ∀ i, Gd (keyR vd) List.length (RP H vd ip) (rowsOf vd s.hs s.ts R f kvs i) := fun i => by
        unfold rowsOf
        rw [← eip, ← ess]
        refine SQ_good (fun r hr => ?_) (fun r hr q hq => ?_) i
        · obtain ⟨s', hs', rfl⟩ := List.mem_map.mp hr
          exact ⟨rp1 s' hs', by simp⟩
        · obtain ⟨s', hs', rfl⟩ := List.mem_map.mp hq
          obtain ⟨q', f', o', _, _, ek, hin⟩ := hr.to
          rw [eip, eR] at hin
          obtain ⟨r2, hr2, hup2, _, e2⟩ := mem_insP.mp hin
          have e3 : roomT R (keyR vd r) = rho r2 := by rw [ek, e2, eR]; exact roomT_rho ho.pl.kn hr2
          rw [e3] at hs'
          have hh2 : r2 ∈ s.here := mem_here hr2 (decide_eq_true hup2)
          obtain ⟨c1, c2⟩ := cells_in s' hs'
          exact ⟨hr.snoc (hcv r2 hh2 _ c2) c1, by simp⟩
      have lenS : ∀ i, (rowsOf vd s.hs s.ts R f kvs i).length ≤ 101000 := fun i => by
        have := nd_le (m := ip) (good i).nd fun k hk => by
          obtain ⟨r, hr, rfl⟩ := List.mem_map.mp hk
          obtain ⟨_, _, _, _, _, e1, e2⟩ := ((good i).all r hr).to
          rw [e1]; exact e2
        rw [List.length_map] at this; omega
      refine ⟨fun z σ H' => ∃ (at_ : Nat) (v6 : Option V) (as : List Addr), σ = [some (.ref s.p), some (nint f), some (.ref d), some (.ref a), some (.ref e), some (.ref ln), v6, some (nint at_)] ∧ Kp [e, ln] H4 H' ∧ Fnd K H H' vd e ln as (rowsOf vd s.hs s.ts R f kvs at_) ∧ z + at_ = 101000 ∧ at_ ≤ 101000,
        ⟨101000, 0, _, as, rfl, k5, f5, by omega, by omega⟩, ?_⟩
      rintro z σ H6 ⟨at_, w6, as6, rfl, k6, f6, ez, hat⟩
      refine ⟨_, rfl, _, rfl, ln, _, rfl, .inl (SqL.of f6.el), _, _, rfl, rfl, _, rfl, ?_⟩
      rw [List.length_map]
      by_cases hlt : at_ < (rowsOf vd s.hs s.ts R f kvs at_).length
      · rw [decide_eq_true (by omega)]
        refine iteT ⟨fun σ' H'' => ∃ m', m' < z ∧ _, fun σ' H'' z => z, ?_⟩
        obtain ⟨S, eS⟩ : ∃ S, S = rowsOf vd s.hs s.ts R f kvs at_ := ⟨_, rfl⟩
        have gS := good at_
        have lS := lenS at_
        have hr0 : S[at_]? = some (S[at_]'(by rw [eS]; exact hlt)) := List.getElem?_eq_getElem _
        generalize S[at_]'(by rw [eS]; exact hlt) = r0 at hr0
        have eSn : rowsOf vd s.hs s.ts R f kvs (at_ + 1) = insAll (keyR vd) S (candR vd ip R r0) := by
          rw [eS] at hr0 ⊢
          unfold rowsOf at hr0 ⊢
          rw [eip]
          exact SQ_step hr0
        rw [← eS] at f6 gS lS hlt
        have rp0 := gS.all r0 (List.mem_of_getElem? hr0)
        obtain ⟨q0, f0, o0, ev0, eq0, ek0, hin0⟩ := rp0.to
        have hin0' := hin0
        rw [eip, eR] at hin0'
        obtain ⟨r2, hr2, hup2, _, e2⟩ := mem_insP.mp hin0'
        have hh2 : r2 ∈ s.here := mem_here hr2 (decide_eq_true hup2)
        have e3 : roomT R (keyR vd r0) = rho r2 := by rw [ek0, e2, eR]; exact roomT_rho ho.pl.kn hr2
        have k06 := kH k6
        have ho6 := ho.kp0 k06
        have sz2 := ho.pl.sz r2 hr2
        obtain ⟨ef2, eo2⟩ : f0 = r2.f ∧ o0 = r2.o := by injection e2 with e2 e3; exact ⟨e2, e3⟩
        subst ef2 eo2
        have eline : atI (S.map fun r => (lastS r).val) (at_ : Int) = some (.ref q0) := atI_nat (by rw [List.getElem?_map, hr0]; show some (lastS r0).val = _; rw [ev0])
        refine ⟨_, rfl, _, rfl, _, rfl, ln, _, _, _, rfl, rfl, SqL.of f6.el, eline, _, rfl, s, r2, q0, a, ps, vd, rfl, ho6, hh2, k06 _ _ eq0 (by simp), k6 _ _ ea4 (by simp [nea.symm, nlna.symm]), fun v hv => (hcv r2 hh2 v hv).tk k06.tkq, fun l2 H7 hl2 k7 st7 => ?_⟩
        have ecell : cellsD vd ps (rho r2) r2.cells.length = cellsD vd ip (rho r2) r2.cells.length := by
          unfold cellsD
          rw [show (fun c : V × Nat => inB ps (vd c.1)) = fun c => inB ip (vd c.1) from funext fun c => inB_congr hps _]
        rw [ecell] at st7
        have ecd : candR vd ip R r0 = (cellsD vd ip (rho r2) r2.cells.length).map fun s => r0 ++ [s] := by
          unfold candR
          rw [e3]; rfl
        rw [ecd] at eSn
        obtain ⟨cs, ecs⟩ : ∃ cs, cs = cellsD vd ip (rho r2) r2.cells.length := ⟨_, rfl⟩
        have csok : ∀ s' ∈ cs, Vd H s'.val (vd s'.val) ∧ inB ip (vd s'.val) = true := fun s' hs' => by
          rw [ecs] at hs'
          obtain ⟨c1, c2⟩ := cells_in s' hs'
          exact ⟨hcv r2 hh2 _ c2, c1⟩
        have csl : cs.length ≤ 6 := by rw [ecs]; exact Nat.le_trans (cellsD_len _ _ _ _) sz2.2
        rw [← ecs] at st7 eSn
        obtain ⟨pl7, epl7, ppl7⟩ := id st7
        have k67 : Kp [e, ln] H4 H7 := k6.trans (k7.mono (by simp))
        have f7 := f6.kp k7
        have nl2 : l2 ≠ e ∧ l2 ≠ ln := ⟨fun z => (by rw [z, f6.ed] at hl2; cases hl2), fun z => (by rw [z, f6.el] at hl2; cases hl2)⟩
        refine ⟨l2, rfl, ⟨_, SqL.of epl7⟩, for_list (K := K) (a := l2) (xs := pl7.map V.ref) (fun j σ H' => ∃ v6 as, σ = [some (.ref s.p), some (nint f), some (.ref d), some (.ref a), some (.ref e), some (.ref ln), v6, some (nint at_)] ∧ Kp [e, ln] H7 H' ∧ Fnd K H H' vd e ln as (insAll (keyR vd) S ((cs.take j).map fun s => r0 ++ [s])))
          ⟨_, as6, rfl, Kp.refl, f7⟩ (fun i σ H' _ ⟨_, _, _, z, _⟩ => SqL.of (z _ _ epl7 (by simp [nl2.1, nl2.2]))) ?_ ?_⟩
        · rintro j x σ H8 hx ⟨v6, as8, rfl, k8, f8⟩
          rw [List.getElem?_map] at hx
          obtain ⟨p, hp, rfl⟩ := Option.map_eq_some_iff.mp hx
          obtain ⟨st, hst, hat7⟩ := LiI.paired_get ppl7 hp
          have k48 : Kp [e, ln] H4 H8 := k67.trans k8
          have tk78 : TKq H7 H8 := fun b xs eb => k8 b _ eb fun z => by
            rcases List.mem_cons.mp z with z | z
            · rw [z, f7.ed] at eb; cases eb
            · rw [List.mem_singleton] at z; rw [z, f7.el] at eb; cases eb
          have hat8 := hat7.tk tk78
          have rp := rp0.snoc (csok st (List.mem_of_getElem? hst)).1 (csok st (List.mem_of_getElem? hst)).2
          obtain ⟨q', f', o', ev, eq, ek, hin⟩ := rp.to
          rw [lastS_snoc] at ev
          have k08 := kH k48
          have eq8 := k08 _ _ eq (by simp)
          obtain ⟨xs, hxs, hlast⟩ := step_last (K := K) hat8
          have etk : (cs.take (j + 1)).map (fun s => r0 ++ [s]) = (cs.take j).map (fun s => r0 ++ [s]) ++ [r0 ++ [st]] := by
            obtain ⟨hi, eg⟩ := List.getElem?_eq_some_iff.mp hst
            rw [List.take_succ_eq_append_getElem hi, eg, List.map_append]; rfl
          have gd : Gd (keyR vd) List.length (RP H vd ip) (insAll (keyR vd) S ((cs.take j).map fun s => r0 ++ [s])) := gS.insAll fun r hr => by
            obtain ⟨s', hs', rfl⟩ := List.mem_map.mp hr
            have hs' := csok s' (List.mem_of_mem_take hs')
            have := gS.ix at_ r0 hr0
            exact ⟨rp0.snoc hs'.1 hs'.2, by rw [List.length_append]; show r0.length + 1 ≤ _; omega⟩
          have lenL : (insAll (keyR vd) S ((cs.take j).map fun s => r0 ++ [s])).length ≤ 101000 := by
            have := nd_le (m := ip) gd.nd fun k hk => by
              obtain ⟨r, hr, rfl⟩ := List.mem_map.mp hk
              obtain ⟨_, _, _, _, _, e1, e2⟩ := (gd.all r hr).to
              rw [e1]; exact e2
            rw [List.length_map] at this; omega
          have einc : insAll (keyR vd) S ((cs.take (j + 1)).map fun s => r0 ++ [s]) = ins (keyR vd) (insAll (keyR vd) S ((cs.take j).map fun s => r0 ++ [s])) (r0 ++ [st]) := by rw [etk, insAll_app]; rfl
          have pre : (insAll (keyR vd) S ((cs.take j).map fun s => r0 ++ [s]))[at_]? = some r0 := (pre_get (insAll_pre (keyR vd) _ S) hlt).trans hr0
          rw [einc]
          generalize insAll (keyR vd) S ((cs.take j).map fun s => r0 ++ [s]) = L at *
          have dg : DGet H8 e (.ref q') (valV (rowsK vd L as8) (kk (f', o'))) := DGet.t (k := kk (f', o')) f8.ed eq8
          refine ⟨_, rfl, _, rfl, p, xs, _, _, rfl, rfl, hxs, hlast, _, rfl, e, _, rfl, by rw [ev]; exact dg, ?_⟩
          by_cases hk : (f', o') ∈ L.map (keyR vd)
          · rw [rowsK_has f8.la gd.nd hk]
            refine ⟨_, rfl, iteF ⟨_, as8, rfl, k8, ?_⟩⟩
            unfold ins
            rw [ek, if_pos hk]; exact f8
          · rw [rowsK_none f8.la hk]
            refine ⟨_, rfl, iteT ?_⟩
            have hal := (List.getElem?_eq_some_iff.mp pre).1
            have ha0 : as8[at_]? = some (as8[at_]'(by rw [f8.la]; exact hal)) := List.getElem?_eq_getElem _
            generalize as8[at_]'(by rw [f8.la]; exact hal) = a0 at ha0
            obtain ⟨y, hy, pr0, epr0, ppr0⟩ := LiI.paired_get f8.rw ha0
            obtain rfl : r0 = y := Option.some.inj (pre.symm.trans hy)
            have eline8 : atI (L.map fun r => (lastS r).val) (at_ : Int) = some (.ref q0) := atI_nat (by rw [List.getElem?_map, pre]; show some (lastS r0).val = _; rw [ev0])
            have dg0 : DGet H8 e (.ref q0) (some (.ref a0)) := by
              rw [← rowsK_some f8.la gd.nd pre ha0, ek0]
              exact DGet.t (k := kk (r2.f, r2.o)) f8.ed (k08 _ _ eq0 (by simp))
            refine ⟨_, rfl, _, rfl, _, rfl, ln, _, _, _, rfl, rfl, SqL.of f8.el, eline8, e, _, rfl, dg0, _, rfl, (by show 1 ≤ sizeLine; decide), fun rb hrb => ?_⟩
            have krb := (Kp.refl (S := []) (H := H8)).new (o := .lst [.ref p]) hrb
            have rlen := gd.ix at_ r0 pre
            have lpr0 : (pr0.map V.ref).length = r0.length := by rw [List.length_map]; exact Paired.length ppr0
            have big : (200000 : Nat) < sizeLine := by decide
            refine ⟨a0, rb, _, _, rfl, rfl, krb _ _ epr0 (by simp), upd_same, (by rw [lpr0]; show r0.length + 1 ≤ _; omega), fun ra hra => ?_⟩
            have e9l := krb _ _ f8.el (by simp)
            have f9 := f8.kp krb
            have hat9 := hat8.tk krb.tkq
            have ppr9 : Paired (fun p' s' => StepAt (upd H8 rb (.lst [.ref p])) p' s') (pr0 ++ [p]) (r0 ++ [st]) := Paired.snoc (Paired.mapP ppr0 fun p' s' z => z.tk krb.tkq) hat9
            have eq9 := krb _ _ eq8 (by simp)
            have k89 : Kp [e, ln] H7 (upd H8 rb (.lst [.ref p])) := k8.trans (krb.mono (by simp))
            rw [show pr0.map V.ref ++ [V.ref p] = (pr0 ++ [p]).map V.ref by rw [List.map_append]; rfl]
            have k09 : Kp [] H (upd H8 rb (.lst [.ref p])) := k08.trans krb
            generalize upd H8 rb (.lst [.ref p]) = H9 at *
            have kra := (Kp.refl (S := []) (H := H9)).new (o := .lst ((pr0 ++ [p]).map V.ref)) hra
            have e5d := kra _ _ f9.ed (by simp)
            have e5l := kra _ _ f9.el (by simp)
            obtain ⟨ys, hys, hlast2⟩ := step_last (K := K) (hat9.tk kra.tkq)
            refine ⟨_, rfl, _, rfl, _, rfl, p, ys, _, _, rfl, rfl, hys, hlast2, e, _, rfl, by rw [ev]; exact DPut.t (k := kk (f', o')) e5d (kra _ _ eq9 (by simp)) (by rw [rowsK_len f8.la]; omega), ?_⟩
            have nel : e ≠ ln := ne_of f8.ed f8.el (fun z => by cases z)
            rw [putK_new _ (rowsK_none f8.la hk), ← ek, rowsK_snoc f8.la]
            obtain ⟨zs, hzs, hlast3⟩ := step_last (K := K) ((hat9.tk kra.tkq).tk (tkq_dT (ys := rowsK vd (L ++ [r0 ++ [st]]) (as8 ++ [ra])) e5d))
            refine ⟨_, rfl, .inl ⟨rfl, _, SqL.of ((upd_ne nel.symm).trans e5l)⟩, _, rfl, _, rfl, p, zs, _, _, rfl, rfl, hzs, hlast3, ln, _, _, rfl, rfl, (upd_ne nel.symm).trans e5l, (by rw [List.length_map]; omega), ?_⟩
            have fp := f9.put (ps := pr0 ++ [p]) (r := r0 ++ [st]) hra (k09.free hra) ppr9
            rw [lastS_snoc] at fp
            have ei : ins (keyR vd) L (r0 ++ [st]) = L ++ [r0 ++ [st]] := by unfold ins; rw [ek, if_neg hk]
            rw [ei]
            refine ⟨_, as8 ++ [ra], rfl, fun b o eb hb => ?_, fp⟩
            have n1 : b ≠ e := fun z => hb (by simp [z])
            have n2 : b ≠ ln := fun z => hb (by simp [z])
            rw [upd_ne n2, upd_ne n1, upd_ne (ne_of_none (k89 b o eb hb) hra)]
            exact k89 b o eb hb
        · rintro σ H8 ⟨v6, as8, rfl, k8, f8⟩
          have lp7 : (pl7.map V.ref).length = cs.length := by rw [List.length_map]; exact Paired.length ppl7
          rw [lp7, List.take_of_length_le (Nat.le_refl _), ← eSn] at f8
          refine ⟨_, rfl, _, _, rfl, rfl, z - 1, by omega, at_ + 1, _, as8, rfl, k67.trans k8, f8, by omega, by omega⟩
      · rw [decide_eq_false (by omega)]
        refine iteF ⟨_, rfl, q e ln H6 as6 at_ heH (kH k6) (by rw [← eR]; omega) (by rw [← eR]; exact f6)⟩
end

end Lw
namespace Lw
open PySem PySem.Spec L2 FG
open PyProof.Rows hiding St
/-! ### the law's rounds -/
structure Fn2 (K : PySem.W.Frag) (H : Hp) (vd : V → PyData) (d : Addr) (as : List Addr) (L : List Row) : Prop where
  ed : H d = some (.dT (rowsK vd L as))
  la : as.length = L.length
  rw : Paired (fun a r => StL K H a r) as L
theorem StL.kpS {K : PySem.W.Frag} {H H' : Hp} {S : List Addr} {l : Addr} {ss : List St0} (x : StL K H l ss) (k : Kp S H H') (n : l ∉ S) (t : TKq H H') : StL K H' l ss := by
  obtain ⟨ps, e, h⟩ := x
  exact ⟨ps, k _ _ e n, Paired.mapP h fun p s q => q.tk t⟩
theorem rows_kpS {K : PySem.W.Frag} {H H' : Hp} {S : List Addr} {as : List Addr} {L : List Row} (x : Paired (fun a r => StL K H a r) as L) (k : Kp S H H') (n : ∀ a ∈ as, a ∉ S) (t : TKq H H') : Paired (fun a r => StL K H' a r) as L := by
  induction x with
  | nil => exact .nil
  | @cons a r as rs h _ ih => exact .cons (h.kpS k (n a (by simp)) t) (ih fun b hb => n b (by simp [hb]))
theorem Fn2.kp {K : PySem.W.Frag} {H H' : Hp} {vd : V → PyData} {d : Addr} {as : List Addr} {L : List Row} (x : Fn2 K H vd d as L) (k : Kp [] H H') : Fn2 K H' vd d as L :=
  ⟨k _ _ x.ed (by simp), x.la, rows_kpS x.rw k (fun _ _ z => by cases z) k.tkq⟩
theorem rows_in {K : PySem.W.Frag} {H : Hp} {as : List Addr} {L : List Row} (x : Paired (fun a r => StL K H a r) as L) : ∀ a ∈ as, ∃ ps : List Addr, H a = some (.lst (ps.map V.ref)) := fun a ha => by
  obtain ⟨j, y, _, _, ⟨ps, e, _⟩⟩ := LiI.paired_ix x ha
  exact ⟨ps, e⟩
def spWKept (K : PySem.W.Frag) : Sp := fun vs H Q _ => ∃ (x : WSt) (f : Nat) (d : Addr) (kvs : List (L2.Key × V)) (vd : V → PyData), vs = [.ref x.m, nint f, .ref d] ∧ WAt H x ∧ x.rs.length ≤ 1000 ∧ (∀ r ∈ x.rs, r.cells.length ≤ 6) ∧ H d = some (.dK kvs) ∧ kvs.length ≤ 100 ∧ (kvs.map (·.1)).Nodup ∧ d ∉ x.foot ∧
  (∀ p ∈ kvs, Vd H p.2 (vd p.2)) ∧ (∀ r ∈ x.here, ∀ v ∈ r.cells, Vd H v (vd v)) ∧ ∀ e H' as i, H e = none → Kp [] H H' → (rowsOf vd x.hs x.ts (x.rs.map rho) f kvs i).length ≤ i → Fn2 K H' vd e as (rowsOf vd x.hs x.ts (x.rs.map rho) f kvs i) → Q (.ref e) H'
theorem stepsD_len {vd : V → PyData} {ps : List (Nat × Nat)} {kvs : List (L2.Key × V)} {l : List Tr} (h6 : ∀ t ∈ l, t.2.2.length ≤ 6) : (stepsD vd ps kvs l).length ≤ kvs.length + 6 * l.length := by
  unfold stepsD
  have h1 := handD_len vd ps kvs
  have h2 := roomsD_len vd ps h6
  rw [List.length_append]; omega
theorem row_last {K : PySem.W.Frag} {H : Hp} {b : Addr} {r : Row} (h : StL K H b r) (ne : r ≠ []) : ∃ xs p, SqL K H b xs ∧ atI xs (-1) = some (.ref p) ∧ StepAt H p (lastS r) := by
  obtain ⟨ps, e, pr⟩ := h
  have key : ∀ {ps : List Addr} {r : Row}, Paired (fun p s => StepAt H p s) ps r → r ≠ [] → ∃ ps' p, ps = ps' ++ [p] ∧ StepAt H p (lastS r) := by
    intro ps r pr
    induction pr with
    | nil => intro h; exact absurd rfl h
    | @cons p s ps ss h hr ih =>
      intro _
      cases ss with
      | nil => cases hr; exact ⟨[], p, rfl, h⟩
      | cons t ss =>
        obtain ⟨ps', p', e, z⟩ := ih (by simp)
        refine ⟨p :: ps', p', by rw [e]; rfl, ?_⟩
        have : lastS (s :: t :: ss) = lastS (t :: ss) := by unfold lastS; rw [List.getLast?_cons_cons]
        rw [this]; exact z
  obtain ⟨ps', p, rfl, z⟩ := key pr ne
  exact ⟨_, p, SqL.of e, by rw [List.map_append]; exact L2.atI_last _ _, z⟩
section
variable {P : Program} {w : World} {K : PySem.W.Frag} {mg : Str → Option Value} {base : Heap}
theorem ok_wkept (T : Tx K mg) {fd : FuncData} (F : Fun K "_law_kept" "_law_kept" s__law_kept (He.ga K "_law_kept") fd) (c__law_inner : Cal P w K mg base 3 "_law_inner" spWInner) (c__law_steps : Cal P w K mg base 4 "_law_steps" (spWSteps K)) : FnG P w K mg base 5 (He.ga K "_law_kept") fd ["_law_world_here", "_law_frame", "_law_hands_here"] (spWKept K) := by
  refine FnG.of F sc__law_kept (fun vs H Q E h => ?_) (fun cdv A outer sh H vs Q E hr h => ?_)
  · obtain ⟨x, f, d, kvs, vd, rfl, _⟩ := h; rfl
  · obtain ⟨x, f, d, kvs, vd, rfl, y, hl, h6, ed, hk, nd, nf, hkv, hcv, q⟩ := h
    have al := allW_len x
    obtain ⟨R, eR⟩ : ∃ R, R = x.rs.map rho := ⟨_, rfl⟩
    obtain ⟨ip, eip⟩ : ∃ ip, ip = insP x.hs x.ts R f := ⟨_, rfl⟩
    have ipl : ip.length ≤ 1000 := by
      rw [eip, eR, ← inW_pk, List.length_map]
      exact Nat.le_trans (List.length_filter_le _ _) (Nat.le_trans al hl)
    have wysT : ∀ {H2 : Hp} {l : Addr}, TKq H H2 → H2 l = some (.lst ((inW x f).map fun r => V.ref r.w)) → Dp K H2 (.ref l) (.list ((inW x f).map fun r => wayD r.f r.o)) := fun t e =>
      .lst (SqL.of e) (dp_ways fun r hr => t _ _ (y.wl r (x.sub.subset (mem_all.mp (List.mem_filter.mp hr).1))))
    refine ⟨_, pss_cons (ps_set (i := 3) sc__law_kept.nd rfl (by first | exact Or.inl rfl | exact Or.inr rfl) (gc c__law_inner (hr.mono (by decide)) takes0 (pa_cons (pv 0) (pa_cons (pv 1) (pa_nil)))))
      (pss_cons (ps_set (i := 4) sc__law_kept.nd rfl (by first | exact Or.inl rfl | exact Or.inr rfl) (pe_dnewT))
      (pss_cons (ps_setLc (i := 5) (own := [("_law_step", 6)]) (g := gName 6) (tt := tYes) rfl sc__law_kept.nd rfl rfl (sw_true rfl rfl rfl (by decide +kernel)) (kiL K (gc c__law_steps (hr.mono (by decide)) takes0 (pa_cons (pv 0) (pa_cons (pv 1) (pa_cons (pv 2) (pa_nil)))))) (blkOk_by (own := [("_law_step", 6)]) (N := ["_law_world_here", "_law_frame", "_law_hands_here", "_law_inner_here", "_law_found", "_law_fresh", "_law_step", "_law_late", "_law_row_here", "_law_way", "_law_k", "_law_value_here"]) (sc := defScope s__law_kept) (by decide +kernel)) (fun _ _ _ _ _ => pg_name (i := 6) sc__law_kept.nd rfl (by first | exact Or.inl rfl | exact Or.inr rfl)) (fun _ _ _ _ _ => by exact pts_nil) (fun _ _ _ _ _ => by exact pe_lst (pa_cons (pv 6) (pa_nil))))
      (pss_cons (ps_while (passes_of rfl) (pt_cmpR (kneE K hr.r.units) (pv 5) (pe_lst (pa_nil)) (by first | exact nomark _ | rfl)) (pss_cons (ps_set (i := 7) sc__law_kept.nd rfl (by first | exact Or.inl rfl | exact Or.inr rfl) (pe_lst (pa_nil)))
      (pss_cons (ps_for (passes_of rfl) rfl (kiL K (pv 5)) (pg_name (i := 8) sc__law_kept.nd rfl (by first | exact Or.inl rfl | exact Or.inr rfl))
        (pss_one (ps_if (pt_cmp (pc_dnotin hr.hu (pe_ix (kixT K) (pe_ix (kixL K) (pv 8) (pe_un un_neg (pe_int)) (fun _ _ => rfl)) (pe_un un_neg (pe_int)) (fun _ _ => rfl)) (pv 4))) (pss_cons (ps_dput hr.hu (pv 4) (pe_ix (kixT K) (pe_ix (kixL K) (pv 8) (pe_un un_neg (pe_int)) (fun _ _ => rfl)) (pe_un un_neg (pe_int)) (fun _ _ => rfl)) (pv 8) rfl)
      (pss_one (ps_expr (kbm K PySem.F.plainAttrs_list PySem.F.slot_list_append PySem.F.type_list_append mt_append (pv 7) (pa_cons (pv 8) (pa_nil)))))) (pss_nil))))
      (pss_cons (ps_set (i := 5) sc__law_kept.nd rfl (by first | exact Or.inl rfl | exact Or.inr rfl) (pe_lst (pa_nil)))
      (pss_one (ps_for (passes_of rfl) rfl (kiL K (pv 7)) (pg_name (i := 8) sc__law_kept.nd rfl (by first | exact Or.inl rfl | exact Or.inr rfl))
        (pss_cons (ps_set (i := 9) sc__law_kept.nd rfl (by first | exact Or.inl rfl | exact Or.inr rfl) (pe_ix (kixT K) (pe_ix (kixL K) (pv 8) (pe_un un_neg (pe_int)) (fun _ _ => rfl)) (pe_un un_neg (pe_int)) (fun _ _ => rfl)))
      (pss_one (ps_for (passes_of rfl) rfl (kiEnum K rfl T.z_enumerate (pa_cons (pe_dget hr.hu (pe_dget hr.hu (pv 0) (pe_str) (fun _ _ => rfl)) (pv 9) (fun _ _ => rfl)) (pa_nil))) (kgT K rfl (pgs_cons (pg_name (i := 10) sc__law_kept.nd rfl (by first | exact Or.inl rfl | exact Or.inr rfl)) (pgs_cons (pg_name (i := 11) sc__law_kept.nd rfl (by first | exact Or.inl rfl | exact Or.inr rfl)) (pgs_nil))))
        (pss_one (ps_if (pt_cmpR (kinD K hr.u65) (pv 11) (pv 3) (by first | exact nomark _ | rfl)) (pss_one (ps_expr (kbm K PySem.F.plainAttrs_list PySem.F.slot_list_append PySem.F.type_list_append mt_append (pv 5) (pa_cons (pe_op op_cat (pv 8) (pe_lst (pa_cons (pe_tup (pa_cons (pe_str) (pa_cons (pv 9) (pa_cons (pv 10) (pa_cons (pv 11) (pa_nil)))))) (pa_nil)))) (pa_nil))))) (pss_nil))))))))))))
      (pss_one (ps_ret (pv 4)))))), ?_⟩
    refine ⟨_, rfl, _, rfl, x, f, rfl, y, hl, fun li H1 hli k1 eli => fun e he => ?_⟩
    have kE := (Kp.refl (S := []) (H := H1)).new (o := .dT []) he
    have e2 : upd H1 e (.dT []) e = some (.dT (rowsK vd [] [])) := upd_same
    have heH : H e = none := k1.free he
    have eli2 := kE _ _ eli (by simp)
    walk_at "nx"
    generalize upd H1 e (.dT []) = H2 at *
    have k02 := k1.trans kE
    refine ⟨_, rfl, _, rfl, _, rfl, x, f, d, kvs, vd, rfl, y.kp0 k02, hl, h6, k02 _ _ ed (by simp), hk, nd, nf, fun p hp => (hkv p hp).tk k02.tkq, fun r hr v hv => (hcv r hr v hv).tk k02.tkq, fun l H3 hl3 k3 st3 => ?_⟩
    rw [← eR, ← eip] at st3
    obtain ⟨ss, ess⟩ : ∃ ss, ss = stepsD vd ip kvs (allR x.ts R) := ⟨_, rfl⟩
    rw [← ess] at st3
    obtain ⟨pl, epl, ppl⟩ := id st3
    have k03 := k02.trans k3
    have arl : (allR x.ts R).length ≤ 1000 := by rw [eR, ← allW_rho, List.length_map]; omega
    have ar6 : ∀ t ∈ allR x.ts R, ∃ r ∈ x.here, rho r = t := fun t ht => by
      rw [eR, ← allW_rho] at ht
      obtain ⟨r, hr, e⟩ := List.mem_map.mp ht
      exact ⟨r, mem_all.mp hr, e⟩
    have ssl : ss.length ≤ 6100 := by
      rw [ess]
      have := stepsD_len (vd := vd) (ps := ip) (kvs := kvs) (l := allR x.ts R) fun t ht => by
        obtain ⟨r, hr, rfl⟩ := ar6 t ht
        exact h6 r (x.sub.subset hr)
      omega
    have rp1 : ∀ s' ∈ ss, RP H vd ip [s'] := fun s' hs' => by
      rw [ess] at hs'
      refine RP.one ?_ (steps_in s' hs')
      rcases List.mem_append.mp hs' with z | z
      · obtain ⟨p, hp, rfl⟩ := List.mem_map.mp z
        exact hkv p (List.mem_filter.mp hp).1
      · obtain ⟨t, ht, z⟩ := List.mem_flatMap.mp z
        obtain ⟨r, hr, rfl⟩ := ar6 t (List.mem_filter.mp ht).1
        exact hcv r hr _ (cells_in s' z).2
    have heH3 : e ≠ l := fun z => by have := k3 _ _ e2 (by simp); rw [z] at e2; rw [e2] at hl3; cases hl3
    refine ⟨l, rfl, ⟨_, SqL.of epl⟩, fun D hD => ?_⟩
    refine lc_list (a := l) (xs := pl.map V.ref) (fun i H' => Kp [] H3 H' ∧ ∃ bs : List Addr, H' D = some (.lst (bs.map V.ref)) ∧ Paired (fun a r => StL K H' a r) bs ((ss.take i).map fun s => [s]) ∧ D ∉ bs) ⟨Kp.refl.new hD, [], upd_same, .nil, fun z => by cases z⟩ (fun i H' _ z => SqL.of (z.1 _ _ epl (by simp))) ?_ ?_
    · rintro i v H4 hv ⟨k4, bs, eD, prb, nDs⟩
      rw [List.getElem?_map] at hv
      obtain ⟨p, hp, rfl⟩ := Option.map_eq_some_iff.mp hv
      obtain ⟨st, hst, hat3⟩ := LiI.paired_get ppl hp
      have hi9 := (List.getElem?_eq_some_iff.mp hst).1
      refine ⟨rfl, _, rfl, (by show 1 ≤ sizeLine; decide), fun b hb => ?_⟩
      have kb := (Kp.refl (S := []) (H := H4)).new (o := .lst [.ref p]) hb
      have eD5 := kb _ _ eD (by simp)
      have lb : bs.length = i := by
        have h1 := Paired.length prb
        rw [List.length_map, List.length_take] at h1
        omega
      have tk : TKq (upd H4 b (.lst [.ref p])) (upd (upd H4 b (.lst [.ref p])) D (.lst (bs.map V.ref ++ [.ref b]))) := tkq_upd eD5
      have nDb : D ≠ b := ne_of_none eD hb
      refine ⟨_, eD5, (by rw [List.length_map, lb]; exact sz_lt (by omega)), fun c o ec _ => (upd_ne (ne_of_none ec hD)).trans ((k4.trans kb) c o ec (by simp)), bs ++ [b], by rw [upd_same, List.map_append]; rfl, ?_⟩
      have e1 : (ss.take (i + 1)).map (fun s => [s]) = (ss.take i).map (fun s => [s]) ++ [[st]] := by
        obtain ⟨hi, eg⟩ := List.getElem?_eq_some_iff.mp hst
        rw [List.take_succ_eq_append_getElem hi, eg, List.map_append]; rfl
      rw [e1]
      refine ⟨Paired.snoc (rows_kpS (rows_kpS prb kb (fun _ _ z => by cases z) kb.tkq) (kp_upd (d := D)) (fun c hc z => ?_) tk) ⟨[p], by rw [upd_ne nDb.symm, upd_same]; rfl, .cons (((hat3.tk k4.tkq).tk kb.tkq).tk tk) .nil⟩, fun z => ?_⟩
      · rw [List.mem_singleton] at z; exact nDs (z ▸ hc)
      · rcases List.mem_append.mp z with z | z
        · exact nDs z
        · rw [List.mem_singleton] at z; exact nDb z
    · rintro H4 ⟨k4, bs, eD, prb, nDs⟩
      have lpl : (pl.map V.ref).length = ss.length := by rw [List.length_map]; exact Paired.length ppl
      rw [lpl, List.take_of_length_le (Nat.le_refl _)] at prb
      obtain ⟨fr0, efr0⟩ : ∃ fr0 : List Row, fr0 = ss.map fun s => [s] := ⟨_, rfl⟩
      rw [← efr0] at prb
      have e3 := k3 _ _ e2 (by simp)
      have nDe : D ≠ e := fun z => by rw [z, e3] at hD; cases hD
      have tkE : ∀ {H' : Hp}, Kp [e] H3 H' → TKq H3 H' := fun k b xs eb => k b _ eb fun z => by rw [List.mem_singleton] at z; rw [z, e3] at eb; cases eb
      have kH : ∀ {H' : Hp}, Kp [e] H3 H' → Kp [] H H' := fun k b o eb _ => k b o (k03 b o eb (by simp)) fun z => by rw [List.mem_singleton] at z; rw [z, heH] at eb; cases eb
      have eli3 := k3 _ _ eli2 (by simp)
      have nlie : li ≠ e := ne_of eli3 e3 (fun z => by cases z)
      have cand_ok : ∀ r, RP H vd ip r → ∃ r2 ∈ x.here, roomT R (keyR vd r) = rho r2 ∧ keyR vd r = (r2.f, r2.o) := fun r hr => by
        obtain ⟨q', f', o', _, _, ek, hin⟩ := hr.to
        rw [eip, eR] at hin
        obtain ⟨r2, hr2, hup2, _, e2⟩ := mem_insP.mp hin
        have ek2 : keyR vd r = (r2.f, r2.o) := ek.trans e2
        exact ⟨r2, mem_whr.mpr ⟨hr2, hup2⟩, by rw [ek2, eR]; exact roomT_rho y.kn hr2, ek2⟩
      have lenG : ∀ {L : List Row}, Gd (keyR vd) List.length (RP H vd ip) L → L.length ≤ 1000 := fun {L} g => by
        have := nd_le (m := ip) g.nd fun k hk => by
          obtain ⟨r, hr, rfl⟩ := List.mem_map.mp hk
          obtain ⟨_, _, _, _, _, e1, e2⟩ := (g.all r hr).to
          rw [e1]; exact e2
        rw [List.length_map] at this; omega
      have eSQ : ∀ i, rowsOf vd x.hs x.ts R f kvs i = SQ (keyR vd) (candR vd ip R) fr0 i := fun i => by unfold rowsOf; rw [← eip, ← ess, ← efr0]
      refine ⟨fun z σ H' => ∃ (fl : Addr) (as bs : List Addr) (L fr : List Row) (v6 v7 v8 v9 v10 v11 : Option V), σ = [some (.ref x.m), some (nint f), some (.ref d), some (.ref li), some (.ref e), some (.ref fl), v6, v7, v8, v9, v10, v11] ∧ Kp [e] H3 H' ∧ Fn2 K H' vd e as L ∧ H' fl = some (.lst (bs.map V.ref)) ∧
          Paired (fun a r => StL K H' a r) bs fr ∧ insAll (keyR vd) L fr = SQ (keyR vd) (candR vd ip R) fr0 L.length ∧ Gd (keyR vd) List.length (RP H vd ip) L ∧ (∀ r ∈ fr, RP H vd ip r ∧ r.length ≤ L.length + 1) ∧ fr.length ≤ 6100 ∧ z = 2 * (1000 - L.length) + if fr = [] then 0 else 1,
        ⟨_, D, [], bs, [], fr0, _, _, _, _, _, _, rfl, k4.mono (by simp), ⟨k4 _ _ e3 (by simp), rfl, .nil⟩, eD, prb, rfl, Gd.nil, fun r hr => ?_, by rw [efr0, List.length_map]; exact ssl, rfl⟩, ?_⟩
      · rw [efr0] at hr
        obtain ⟨s', hs', rfl⟩ := List.mem_map.mp hr
        exact ⟨rp1 s' hs', by simp⟩
      rintro z σ H5 ⟨fl, as, bs5, L, fr, v6, v7, v8, v9, v10, v11, rfl, k5, fn5, efl, pr5, einv, gL, hfr, frl, ez⟩
      refine ⟨_, rfl, by decide, fun l0 hl0 => ⟨fl, l0, _, rfl, rfl, SqL.of ((upd_ne (ne_of_none efl hl0)).trans efl), SqL.of upd_same, _, rfl, ?_⟩⟩
      have k56 := (Kp.refl (S := []) (H := H5)).new (o := .lst []) hl0
      generalize upd H5 l0 (.lst []) = H6 at *
      have k6 : Kp [e] H3 H6 := k5.trans (k56.mono (by simp))
      have fn6 := fn5.kp k56
      have efl6 := k56 _ _ efl (by simp)
      have pr6 := rows_kpS pr5 k56 (fun _ _ z => by cases z) k56.tkq
      have lb5 : bs5.length = fr.length := Paired.length pr5
      by_cases hfe : fr = []
      · have hbe : bs5 = [] := List.length_eq_zero_iff.mp (by rw [lb5, hfe]; rfl)
        rw [hbe]
        refine iteF ⟨_, rfl, q e H6 as L.length heH (kH k6) ?_ ?_⟩
        · rw [← eR, eSQ, ← einv, hfe]; exact Nat.le_refl _
        · rw [← eR, eSQ, ← einv, hfe]; exact fn6
      · have hbn : bs5.map V.ref ≠ [] := fun z => hfe (List.length_eq_zero_iff.mp (by rw [← lb5]; simpa using z))
        have hbe : (!(bs5.map V.ref).isEmpty) = true := by
          cases h : bs5.map V.ref with
          | nil => exact absurd h hbn
          | cons a b => rfl
        rw [hbe]
        refine iteT ⟨fun σ' H'' => ∃ m', m' < z ∧ _, fun σ' H'' z => z, ?_⟩
        refine ⟨by decide, fun lt hlt => ?_⟩
        have k67 := (Kp.refl (S := []) (H := H6)).new (o := .lst []) hlt
        have elt : upd H6 lt (.lst []) lt = some (.lst []) := upd_same
        walk_at "nx"
        generalize upd H6 lt (.lst []) = H7 at *
        have k7 : Kp [e] H3 H7 := k6.trans (k67.mono (by simp))
        have fn7 := fn6.kp k67
        have efl7 := k67 _ _ efl6 (by simp)
        have pr7 := rows_kpS pr6 k67 (fun _ _ z => by cases z) k67.tkq
        have nlt : ∀ {c o}, H6 c = some o → c ≠ lt := fun ec => ne_of_none ec hlt
        have asn : ∀ c ∈ as, c ≠ lt ∧ c ≠ e := fun c hc => by
          obtain ⟨ps, e1⟩ := rows_in fn6.rw c hc
          exact ⟨nlt e1, fun z => by rw [z, fn6.ed] at e1; cases e1⟩
        have bsn : ∀ c ∈ bs5, c ≠ lt ∧ c ≠ e := fun c hc => by
          obtain ⟨ps, e1⟩ := rows_in pr6 c hc
          exact ⟨nlt e1, fun z => by rw [z, fn6.ed] at e1; cases e1⟩
        have nflt := nlt efl6
        have nfle : fl ≠ e := ne_of efl6 fn6.ed (fun z => by cases z)
        have nelt : e ≠ lt := nlt fn6.ed
        have tk7 : ∀ {H' : Hp}, Kp [e, lt] H7 H' → TKq H7 H' := fun k b xs eb => k b _ eb fun z => by
          rcases List.mem_cons.mp z with z | z
          · rw [z, fn7.ed] at eb; cases eb
          · rw [List.mem_singleton] at z; rw [z, elt] at eb; cases eb
        refine ⟨_, rfl, fl, rfl, ⟨_, SqL.of efl7⟩, for_list (K := K) (a := fl) (xs := bs5.map V.ref) (fun i σ H' => ∃ (as' ls : List Addr) (v8 : Option V), σ = [some (.ref x.m), some (nint f), some (.ref d), some (.ref li), some (.ref e), some (.ref fl), v6, some (.ref lt), v8, v9, v10, v11] ∧ Kp [e, lt] H7 H' ∧
            Fn2 K H' vd e as' (insAll (keyR vd) L (fr.take i)) ∧ H' lt = some (.lst (ls.map V.ref)) ∧ Paired (fun a r => StL K H' a r) ls ((insAll (keyR vd) L (fr.take i)).drop L.length) ∧ Gd (keyR vd) List.length (RP H vd ip) (insAll (keyR vd) L (fr.take i)) ∧ (∀ c ∈ as', c ∈ as ∨ c ∈ bs5) ∧ ∀ c ∈ ls, c ∈ bs5)
          ⟨as, [], _, rfl, Kp.refl, fn7, elt, ?_, gL, fun c hc => .inl hc, fun c hc => by cases hc⟩ (fun i σ H' _ ⟨_, _, _, _, z, _⟩ => SqL.of (z _ _ efl7 (by simp [nfle, nflt]))) ?_ ?_⟩
        · show Paired _ [] (L.drop L.length)
          rw [List.drop_length]; exact .nil
        · rintro i v σ H8 hv ⟨as', ls, w8, rfl, k8, fn8, elt8, prl, g8, asm, lsm⟩
          rw [List.getElem?_map] at hv
          obtain ⟨b, hb, rfl⟩ := Option.map_eq_some_iff.mp hv
          have pr8 := rows_kpS pr7 k8 (fun c hc z => by
            rcases List.mem_cons.mp z with z | z
            · exact (bsn c hc).2 z
            · rw [List.mem_singleton] at z; exact (bsn c hc).1 z) (tk7 k8)
          obtain ⟨r, hr, hbr⟩ := LiI.paired_get pr8 hb
          obtain ⟨rpr, rlr⟩ := hfr r (List.mem_of_getElem? hr)
          have hbm := List.mem_of_getElem? hb
          obtain ⟨xs, p, hxs, hpl, hat⟩ := row_last hbr rpr.ne
          obtain ⟨ys, hys, hyl⟩ := step_last (K := K) hat
          obtain ⟨q', f', o', ev, eq, ek, hin⟩ := rpr.to
          have k08 : Kp [] H H8 := kH (fun c o ec hc => k8 c o (k7 c o ec hc) fun z => by
            rcases List.mem_cons.mp z with z | z
            · exact hc (by rw [z]; simp)
            · rw [List.mem_singleton] at z
              exact nlt (k6 c o ec hc) z)
          have eq8 := k08 _ _ eq (by simp)
          have etk : fr.take (i + 1) = fr.take i ++ [r] := by
            obtain ⟨hi, eg⟩ := List.getElem?_eq_some_iff.mp hr
            rw [List.take_succ_eq_append_getElem hi, eg]
          have einc : insAll (keyR vd) L (fr.take (i + 1)) = ins (keyR vd) (insAll (keyR vd) L (fr.take i)) r := by rw [etk, insAll_app]; rfl
          have pre8 := insAll_pre (keyR vd) (fr.take i) L
          rw [einc]
          have l8 := lenG g8
          generalize insAll (keyR vd) L (fr.take i) = M at *
          have dg : DGet H8 e (.ref q') (valV (rowsK vd M as') (kk (f', o'))) := DGet.t (k := kk (f', o')) fn8.ed eq8
          refine ⟨_, rfl, _, rfl, b, xs, _, _, rfl, rfl, hxs, hpl, _, rfl, p, ys, _, _, rfl, rfl, hys, hyl, _, rfl, e, _, rfl, by rw [ev]; exact dg, ?_⟩
          by_cases hkk : (f', o') ∈ M.map (keyR vd)
          · rw [rowsK_has fn8.la g8.nd hkk]
            refine ⟨_, rfl, iteF ⟨as', ls, _, rfl, k8, ?_, elt8, ?_, ?_, asm, lsm⟩⟩
            all_goals (unfold ins; rw [ek, if_pos hkk])
            · exact fn8
            · exact prl
            · exact g8
          · rw [rowsK_none fn8.la hkk]
            refine ⟨_, rfl, iteT ?_⟩
            have big : (200000 : Nat) < sizeLine := by decide
            refine ⟨_, rfl, _, rfl, _, rfl, _, rfl, b, xs, _, _, rfl, rfl, hxs, hpl, _, rfl, p, ys, _, _, rfl, rfl, hys, hyl, e, _, rfl, by rw [ev]; exact DPut.t (k := kk (f', o')) fn8.ed eq8 (by rw [rowsK_len fn8.la]; omega), ?_⟩
            rw [putK_new _ (rowsK_none fn8.la hkk), ← ek, rowsK_snoc fn8.la]
            have lls : ls.length ≤ 1000 := by
              have h1 := Paired.length prl
              rw [List.length_drop] at h1; omega
            have elt9 : upd H8 e (.dT (rowsK vd (M ++ [r]) (as' ++ [b]))) lt = some (.lst (ls.map V.ref)) := (upd_ne nelt.symm).trans elt8
            refine ⟨_, rfl, .inl ⟨rfl, _, SqL.of elt9⟩, _, rfl, lt, _, _, rfl, rfl, elt9, (by rw [List.length_map]; omega), ?_⟩
            have k810 : Kp [e, lt] H8 (upd (upd H8 e (.dT (rowsK vd (M ++ [r]) (as' ++ [b])))) lt (.lst (ls.map V.ref ++ [.ref b]))) := fun c o ec hc => (upd_ne fun z => hc (by simp [z])).trans ((upd_ne fun z => hc (by simp [z])).trans ec)
            have tk8 : TKq H8 (upd (upd H8 e (.dT (rowsK vd (M ++ [r]) (as' ++ [b])))) lt (.lst (ls.map V.ref ++ [.ref b]))) := fun c xs ec => k810 c _ ec fun z => by
              rcases List.mem_cons.mp z with z | z
              · rw [z, fn8.ed] at ec; cases ec
              · rw [List.mem_singleton] at z; rw [z, elt8] at ec; cases ec
            have nn : ∀ c, (c ∈ as ∨ c ∈ bs5) → c ∉ [e, lt] := fun c hc z => by
              have h2 : c ≠ lt ∧ c ≠ e := hc.elim (asn c) (bsn c)
              rcases List.mem_cons.mp z with z | z
              · exact h2.2 z
              · rw [List.mem_singleton] at z; exact h2.1 z
            have eH10 : upd (upd H8 e (.dT (rowsK vd (M ++ [r]) (as' ++ [b])))) lt (.lst (ls.map V.ref ++ [.ref b])) lt = some (.lst ((ls ++ [b]).map V.ref)) := by rw [upd_same, List.map_append]; rfl
            have eH10d : upd (upd H8 e (.dT (rowsK vd (M ++ [r]) (as' ++ [b])))) lt (.lst (ls.map V.ref ++ [.ref b])) e = some (.dT (rowsK vd (M ++ [r]) (as' ++ [b]))) := by rw [upd_ne nelt, upd_same]
            generalize upd (upd H8 e (.dT (rowsK vd (M ++ [r]) (as' ++ [b])))) lt (.lst (ls.map V.ref ++ [.ref b])) = H10 at *
            have ei : ins (keyR vd) M r = M ++ [r] := by unfold ins; rw [ek, if_neg hkk]
            have gi := g8.ins (r := r) rpr (by have := pre_len pre8; omega)
            rw [ei] at gi ⊢
            have hbr10 := hbr.kpS k810 (nn b (.inr hbm)) tk8
            have ed2 : (M ++ [r]).drop L.length = M.drop L.length ++ [r] := List.drop_append_of_le_length (pre_len pre8)
            refine ⟨as' ++ [b], ls ++ [b], _, rfl, k8.trans k810, ⟨eH10d, by rw [List.length_append, List.length_append, fn8.la]; rfl, Paired.snoc (rows_kpS fn8.rw k810 (fun c hc => nn c (asm c hc)) tk8) hbr10⟩, eH10, ?_, gi, fun c hc => ?_, fun c hc => ?_⟩
            · rw [ed2]
              exact Paired.snoc (rows_kpS prl k810 (fun c hc => nn c (.inr (lsm c hc))) tk8) hbr10
            · rcases List.mem_append.mp hc with z | z
              · exact asm c z
              · rw [List.mem_singleton] at z; rw [z]; exact .inr hbm
            · rcases List.mem_append.mp hc with z | z
              · exact lsm c z
              · rw [List.mem_singleton] at z; rw [z]; exact hbm
        · rintro σ H8 ⟨as', ls, w8, rfl, k8, fn8, elt8, prl, g8, asm, lsm⟩
          have lbf : (bs5.map V.ref).length = fr.length := by rw [List.length_map]; exact lb5
          rw [lbf, List.take_of_length_le (Nat.le_refl _)] at fn8 prl g8
          have preM := insAll_pre (keyR vd) fr L
          have lM := lenG g8
          obtain ⟨M, eM⟩ : ∃ M, M = insAll (keyR vd) L fr := ⟨_, rfl⟩
          rw [← eM] at fn8 prl g8 preM lM einv
          have k38 : Kp [e] H3 H8 := fun c o ec hc => k8 c o (k7 c o ec hc) fun z => by
            rcases List.mem_cons.mp z with z | z
            · exact hc (by rw [z]; simp)
            · rw [List.mem_singleton] at z
              exact nlt (k6 c o ec hc) z
          refine ⟨by decide, fun f2 hf2 => ?_⟩
          have k89 := (Kp.refl (S := []) (H := H8)).new (o := .lst []) hf2
          have ef2 : upd H8 f2 (.lst []) f2 = some (.lst []) := upd_same
          walk_at "nx"
          generalize upd H8 f2 (.lst []) = H9 at *
          have nf2 : ∀ {c o}, H8 c = some o → c ≠ f2 := fun ec => ne_of_none ec hf2
          have k39 : Kp [e] H3 H9 := k38.trans (k89.mono (by simp))
          have fn9 := fn8.kp k89
          have prl9 := rows_kpS prl k89 (fun _ _ z => by cases z) k89.tkq
          have elt9 := k89 _ _ elt8 (by simp)
          have lls : ls.length = (M.drop L.length).length := Paired.length prl
          have tk9 : ∀ {H' : Hp}, Kp [f2] H9 H' → TKq H9 H' := fun k c xs ec => k c _ ec fun z => by rw [List.mem_singleton] at z; rw [z, ef2] at ec; cases ec
          have lsn : ∀ c ∈ ls, c ∉ [f2] := fun c hc z => by
            obtain ⟨ps, e1⟩ := rows_in prl c hc
            rw [List.mem_singleton] at z; exact nf2 e1 z
          have nltf : lt ∉ [f2] := fun z => by rw [List.mem_singleton] at z; exact nf2 elt8 z
          have drop_ok : ∀ {i : Nat} {r : Row}, (M.drop L.length)[i]? = some r → RP H vd ip r ∧ r.length ≤ M.length ∧ i < 1000 := fun {i r} hr => by
            rw [List.getElem?_drop] at hr
            have h1 := g8.ix _ r hr
            have h2 := (List.getElem?_eq_some_iff.mp hr).1
            exact ⟨g8.all r (List.mem_of_getElem? hr), by omega, by omega⟩
          refine ⟨_, rfl, lt, rfl, ⟨_, SqL.of elt9⟩, for_list (K := K) (a := lt) (xs := ls.map V.ref) (fun i σ H' => ∃ (cs : List Addr) (v8 v9 v10 v11 : Option V), σ = [some (.ref x.m), some (nint f), some (.ref d), some (.ref li), some (.ref e), some (.ref f2), v6, some (.ref lt), v8, v9, v10, v11] ∧ Kp [f2] H9 H' ∧ H' f2 = some (.lst (cs.map V.ref)) ∧
              Paired (fun a r => StL K H' a r) cs (((M.drop L.length).take i).flatMap (candR vd ip R)) ∧ f2 ∉ cs ∧ cs.length ≤ 6 * i)
            ⟨[], _, _, _, _, rfl, Kp.refl, ef2, .nil, (fun z => by cases z), Nat.zero_le _⟩ (fun i σ H' _ ⟨_, _, _, _, _, _, z, _⟩ => SqL.of (z _ _ elt9 nltf)) ?_ ?_⟩
          · rintro i v σ H10 hv ⟨cs, w8, w9, w10, w11, rfl, k10, ef10, prc, ncs, lcs⟩
            rw [List.getElem?_map] at hv
            obtain ⟨b, hb, rfl⟩ := Option.map_eq_some_iff.mp hv
            have prl10 := rows_kpS prl9 k10 lsn (tk9 k10)
            obtain ⟨r, hr, hbr⟩ := LiI.paired_get prl10 hb
            obtain ⟨rpr, rlr, hi1000⟩ := drop_ok hr
            have nbf : b ∉ [f2] := lsn b (List.mem_of_getElem? hb)
            obtain ⟨xs, p, hxs, hpl, hat⟩ := row_last hbr rpr.ne
            obtain ⟨ys, hys, hyl⟩ := step_last (K := K) hat
            obtain ⟨r2, hh2, er2, ek2⟩ := cand_ok r rpr
            obtain ⟨q', f', o', ev, eq, ek, hin⟩ := rpr.to
            obtain ⟨ef', eo'⟩ : f' = r2.f ∧ o' = r2.o := by
              have := ek.symm.trans ek2
              injection this with e1 e2; exact ⟨e1, e2⟩
            subst ef' eo'
            have tk09 : TKq H H9 := fun c xs ec => (kH k39) c _ ec (by simp)
            have k010 : ∀ {H' : Hp}, Kp [f2] H9 H' → Kp [] H H' := fun k c o ec _ => by
              have h8 := (kH k38) c o ec (by simp)
              exact k c o (k89 c o h8 (by simp)) fun z => by rw [List.mem_singleton] at z; exact nf2 h8 z
            have y10 := y.kp0 (k010 k10)
            have eq10 := (k010 k10) _ _ eq (by simp)
            have er2c := y10.cl r2 hh2
            have sz2 := h6 r2 (x.sub.subset hh2)
            refine ⟨_, rfl, _, rfl, b, xs, _, _, rfl, rfl, hxs, hpl, _, rfl, p, ys, _, _, rfl, rfl, hys, hyl, ?_⟩
            rw [ev]
            walk_at "nx"
            refine ⟨_, rfl, x.m, _, rfl, y10.get5, _, rfl, x.c, _, rfl, y10.getR hh2 eq10, r2.c, _, rfl, SqL.of er2c, ?_⟩
            have ecd : candR vd ip R r = (cellsD vd ip (rho r2) r2.cells.length).map fun s => r ++ [s] := by
              unfold candR
              rw [er2]; rfl
            have etk : ((M.drop L.length).take (i + 1)).flatMap (candR vd ip R) = ((M.drop L.length).take i).flatMap (candR vd ip R) ++ (cellsD vd ip (rho r2) r2.cells.length).map fun s => r ++ [s] := by
              obtain ⟨hi, eg⟩ := List.getElem?_eq_some_iff.mp hr
              rw [List.take_succ_eq_append_getElem hi, eg, List.flatMap_append, ← ecd]
              simp
            refine for_it walk_enum (fun j σ H' => ∃ (cs : List Addr) (v10 v11 : Option V), σ = [some (.ref x.m), some (nint f), some (.ref d), some (.ref li), some (.ref e), some (.ref f2), v6, some (.ref lt), some (.ref b), some (.ref q'), v10, v11] ∧ Kp [f2] H9 H' ∧ H' f2 = some (.lst (cs.map V.ref)) ∧
                Paired (fun a r => StL K H' a r) cs (((M.drop L.length).take i).flatMap (candR vd ip R) ++ (cellsD vd ip (rho r2) j).map fun s => r ++ [s]) ∧ f2 ∉ cs ∧ cs.length ≤ 6 * i + j)
              ⟨cs, _, _, rfl, k10, ef10, by simpa [cellsD] using prc, ncs, by omega⟩ (fun j σ H' _ ⟨_, _, _, _, z, _⟩ => SqL.of ((y.kp0 (k010 z)).cl r2 hh2)) ?_ ?_
            · rintro j v σ H11 H12 hj ⟨cs2, v10, v11, rfl, k11, ef11, prc11, ncs11, lcs11⟩ ⟨T', x1, x2, rfl, hT, rfl, ex1, ex2⟩
              obtain rfl : V.int (j : Nat) = x1 := Option.some.inj ex1
              have hj2 : j < r2.cells.length := hj
              have hz : r2.cells.zipIdx[j]? = some (x2, j) := by
                rw [List.getElem?_zipIdx, show r2.cells[j]? = some x2 from ex2]; simp
              have kT := (Kp.refl (S := []) (H := H11)).new (o := .tup [.int (j : Nat), x2]) hT
              have eT : upd H11 T' (.tup [.int (j : Nat), x2]) T' = some (.tup [.int (j : Nat), x2]) := upd_same
              generalize upd H11 T' (.tup [.int (j : Nat), x2]) = H12 at *
              have k12 : Kp [f2] H9 H12 := k11.trans (kT.mono (by simp))
              have k012 := k010 k12
              have prc12 := rows_kpS prc11 kT (fun _ _ z => by cases z) kT.tkq
              have ef12 := kT _ _ ef11 (by simp)
              have vd12 : Vd H12 x2 (vd x2) := (hcv r2 hh2 x2 (List.mem_of_getElem? ex2)).tk k012.tkq
              have eli12 : H12 li = some (.lst ((inW x f).map fun r => V.ref r.w)) := by
                have h8 := k38 _ _ eli3 (by simpa using nlie)
                exact k12 _ _ (k89 _ _ h8 (by simp)) (by rw [List.mem_singleton]; exact nf2 h8)
              have hbr12 : StL K H12 b r := by
                obtain ⟨y', hy', h⟩ := LiI.paired_get (rows_kpS prl9 k12 lsn (tk9 k12)) hb
                rw [hr] at hy'
                cases hy'
                exact h
              refine ⟨T', _, rfl, SqT.of eT, rfl, _, _, rfl, _, _, rfl, rfl, ?_⟩
              refine ⟨_, rfl, _, rfl, vd x2, _, vd12.dp, wysT k012.tkq eli12, vd12.shaped, shaped_ways _, ?_⟩
              rw [any_inW, ← eR, ← eip]
              cases hbb : inB ip (vd x2) with
              | true =>
                refine ⟨_, rfl, ?_⟩
                obtain ⟨prb, eprb, pprb⟩ := id hbr12
                have big : (200000 : Nat) < sizeLine := by decide
                have lprb : (prb.map V.ref).length = r.length := by rw [List.length_map]; exact Paired.length pprb
                refine ⟨_, rfl, .inl ⟨rfl, _, SqL.of ef12⟩, _, rfl, _, rfl, _, rfl, _, rfl, (by show 4 ≤ sizeLine; decide), fun t ht => ⟨(by show 1 ≤ sizeLine; decide), fun rb hrb => ?_⟩⟩
                have kt := (Kp.refl (S := []) (H := H12)).new (o := .tup [.str "room", .ref q', .int (j : Nat), x2]) ht
                have et : upd H12 t (.tup [.str "room", .ref q', .int (j : Nat), x2]) t = some (.tup [.str "room", .ref q', .int (j : Nat), x2]) := upd_same
                generalize upd H12 t (.tup [.str "room", .ref q', .int (j : Nat), x2]) = Ht at *
                have kb := kt.new (o := .lst [.ref t]) hrb
                have eb : upd Ht rb (.lst [.ref t]) rb = some (.lst [.ref t]) := upd_same
                have et2 : upd Ht rb (.lst [.ref t]) t = some (.tup [.str "room", .ref q', .int (j : Nat), x2]) := (upd_ne (ne_of_none et hrb)).trans et
                generalize upd Ht rb (.lst [.ref t]) = Hb at *
                refine ⟨b, rb, _, _, rfl, rfl, kb _ _ eprb (by simp), eb, (by rw [lprb]; show r.length + 1 ≤ _; omega), fun ra hra => ?_⟩
                have ka := kb.new (o := .lst (prb.map V.ref ++ [.ref t])) hra
                have ea : upd Hb ra (.lst (prb.map V.ref ++ [.ref t])) ra = some (.lst (prb.map V.ref ++ [.ref t])) := upd_same
                have et3 : upd Hb ra (.lst (prb.map V.ref ++ [.ref t])) t = some (.tup [.str "room", .ref q', .int (j : Nat), x2]) := (upd_ne (ne_of_none et2 hra)).trans et2
                have nra : f2 ≠ ra := ne_of_none (kb _ _ ef12 (by simp)) hra
                generalize upd Hb ra (.lst (prb.map V.ref ++ [.ref t])) = Ha at *
                have efa := ka _ _ ef12 (by simp)
                refine ⟨f2, _, _, rfl, rfl, efa, (by rw [List.length_map]; omega), ?_⟩
                have kf : Kp [f2] Ha (upd Ha f2 (.lst (cs2.map V.ref ++ [.ref ra]))) := kp_upd
                have tf : TKq Ha (upd Ha f2 (.lst (cs2.map V.ref ++ [.ref ra]))) := tkq_upd efa
                have eff : upd Ha f2 (.lst (cs2.map V.ref ++ [.ref ra])) f2 = some (.lst ((cs2 ++ [ra]).map V.ref)) := by rw [upd_same, List.map_append]; rfl
                have sta : StepAt Ha t (.room r2.f r2.o j x2) := ⟨q', et3, ka _ _ (k012 _ _ eq (by simp)) (by simp)⟩
                have rowa : StL K Ha ra (r ++ [.room r2.f r2.o j x2]) := ⟨prb ++ [t], by rw [ea, List.map_append]; rfl, Paired.snoc (Paired.mapP pprb fun p' s' z => z.tk ka.tkq) sta⟩
                have prca := rows_kpS prc12 ka (fun _ _ z => by cases z) ka.tkq
                refine ⟨cs2 ++ [ra], _, _, rfl, (k12.trans (ka.mono (by simp))).trans kf, eff, ?_, ?_, ?_⟩
                · rw [cells_yes (t := rho r2) hz hbb, List.map_append, ← List.append_assoc]
                  exact Paired.snoc (rows_kpS prca kf (fun c hc z => by rw [List.mem_singleton] at z; exact ncs11 (z ▸ hc)) tf) (rowa.kpS kf (by simpa using nra.symm) tf)
                · intro z
                  rcases List.mem_append.mp z with z | z
                  · exact ncs11 z
                  · rw [List.mem_singleton] at z; exact nra z
                · rw [List.length_append]; show cs2.length + 1 ≤ _; omega
              | false =>
                refine ⟨_, rfl, ?_⟩
                refine ⟨cs2, _, _, rfl, k12, ef12, ?_, ncs11, by omega⟩
                rw [cells_no (t := rho r2) hz hbb]
                exact prc12
            · rintro σ H11 ⟨cs2, v10, v11, rfl, k11, ef11, prc11, ncs11, lcs11⟩
              exact ⟨cs2, _, _, _, _, rfl, k11, ef11, by rw [etk]; exact prc11, ncs11, by omega⟩
          · rintro σ H10 ⟨cs, w8, w9, w10, w11, rfl, k10, ef10, prc, ncs, lcs⟩
            have lsl : (ls.map V.ref).length = (M.drop L.length).length := by rw [List.length_map]; exact lls
            rw [lsl, List.take_of_length_le (Nat.le_refl _)] at prc
            rw [lsl] at lcs
            have k310 : Kp [e] H3 H10 := fun c o ec hc => by
              have h9 := k39 c o ec hc
              refine k10 c o h9 fun z => ?_
              rw [List.mem_singleton] at z
              exact nf2 (k38 c o ec hc) z
            have fn10 : Fn2 K H10 vd e as' M := ⟨k10 _ _ fn9.ed (by rw [List.mem_singleton]; exact nf2 fn8.ed), fn9.la, rows_kpS fn9.rw k10 (fun c hc z => by
              obtain ⟨ps, e1⟩ := rows_in fn8.rw c hc
              rw [List.mem_singleton] at z; exact nf2 e1 z) (tk9 k10)⟩
            have lc := Paired.length prc
            have hn : L.length ≤ M.length := pre_len preM
            have eM2 : M = SQ (keyR vd) (candR vd ip R) fr0 L.length := einv
            have round : insAll (keyR vd) M ((M.drop L.length).flatMap (candR vd ip R)) = SQ (keyR vd) (candR vd ip R) fr0 M.length := by
              rw [eM2]
              rw [eM2] at hn
              exact SQ_round hn
            have dl : (M.drop L.length).length = M.length - L.length := List.length_drop ..
            refine ⟨2 * (1000 - M.length) + (if (M.drop L.length).flatMap (candR vd ip R) = [] then 0 else 1), ?_, f2, as', cs, M, _, _, _, _, _, _, _, rfl, k310, fn10, ef10, prc, round, g8, fun r hr => ?_, by omega, rfl⟩
            · rw [ez, if_neg hfe]
              by_cases hh : M.length = L.length
              · have : (M.drop L.length) = [] := by rw [← hh, List.drop_length]
                rw [this, hh]; simp
              · split <;> omega
            · obtain ⟨r0, hr0, hr⟩ := List.mem_flatMap.mp hr
              obtain ⟨i0, hi0⟩ := List.mem_iff_getElem?.mp hr0
              obtain ⟨a1, a2, _⟩ := drop_ok hi0
              obtain ⟨r2, hh2, er2, _⟩ := cand_ok r0 a1
              obtain ⟨s', hs', rfl⟩ := List.mem_map.mp hr
              rw [er2] at hs'
              obtain ⟨c1, c2⟩ := cells_in s' hs'
              exact ⟨a1.snoc (hcv r2 hh2 _ c2) c1, by rw [List.length_append]; show r0.length + 1 ≤ _; omega⟩
end

end Lw
namespace Lw
open PySem PySem.Spec L2 FG
open PyProof.Rows hiding St
/-! ### a chain of rooms -/
section
variable {K : PySem.W.Frag} {H H5 H6 : Hp} {s s' : HSt} {x x' : WSt}
/-- both make a room: first the law's rows, then the house -/
theorem HW.makeR {f k t : Nat} {a c w c2 w2 : Addr} (y : HW K H s x) (hup : s.ts[f]? = some none) (k5 : Kp x.foot H H5) (wa5 : WAt H5 (x.made f k t c2 w2)) (xf : ∀ b ∈ (x.made f k t c2 w2).foot, b ∈ x.foot ∨ b = c2) (hc2 : H c2 = none) (ht : t = max x.top (szs x.here + k))
    (ha : H5 a = none) (hc : H5 c = none) (k6 : Kp [s.p, s.gd, s.fd, s.sd, s.hd] H5 H6) (ho6 : HoAt (CH K) H6 (s.made f k a c w)) :
    HW K H6 (s.made f k a c w) (x.made f k t c2 w2) ∧ Kp (s.foot ++ x.foot) H H6 ∧ Grow H s x (s.made f k a c w) (x.made f k t c2 w2) ∧ ∀ z, H6 z = none → H z = none := by
  have sS : ∀ b ∈ [s.p, s.gd, s.fd, s.sd, s.hd], b ∈ s.foot := fun b hb => footS s b (by simp only [List.mem_cons, List.not_mem_nil, or_false] at hb ⊢; rcases hb with z | z | z | z | z <;> simp [z])
  have hupx : x.ts[f]? = some none := by rw [y.et]; exact hup
  have xsub : ∀ b ∈ x.foot, b ∈ (x.made f k t c2 w2).foot := fun b hb => by
    unfold WSt.foot at hb ⊢
    rw [wmade_here hupx]
    rcases List.mem_append.mp hb with z | z
    · exact List.mem_append_left _ z
    · exact List.mem_append_right _ (by rw [List.map_append]; exact List.mem_append_left _ z)
  have fr : ∀ b, H5 b = none → H b = none := fun b h => by
    cases e : H b with
    | none => rfl
    | some o =>
      by_cases hin : b ∈ x.foot
      · obtain ⟨o2, e2, _⟩ := wa5.std b (xsub b hin)
        rw [h] at e2; cases e2
      · rw [k5 b o e hin] at h; cases h
  have sx : ∀ b ∈ s.foot, b ∉ (x.made f k t c2 w2).foot := fun b hb z => by
    rcases xf b z with h | h
    · exact y.dj b hb h
    · obtain ⟨o, e, _⟩ := y.ho.std b hb
      rw [h, hc2] at e; cases e
  have nt : ∀ b ∈ [s.p, s.gd, s.fd, s.sd, s.hd], ∀ xs, H5 b ≠ some (.tup xs) := fun b hb xs e => by
    obtain ⟨o, eo, n, _⟩ := y.ho.std b (sS b hb)
    rw [k5 b o eo (y.dj b (sS b hb))] at e
    exact n xs (Option.some.inj e)
  have wa6 := wa5.kp k6 (fun b hb => sx b (sS b hb)) nt
  have nw : ∀ b, H5 b = none → b ∉ (x.made f k t c2 w2).foot := fun b h z => by
    obtain ⟨o, e, _⟩ := wa5.std b z
    rw [h] at e; cases e
  refine ⟨⟨ho6, wa6, y.eh, y.et, ?_, y.gr, y.tk, fun r hr v hv => ?_, y.lim, ?_, fun b hb => ?_⟩, (k5.mono fun b hb => List.mem_append_right _ hb).trans (k6.mono fun b hb => List.mem_append_left _ (sS b hb)), ⟨rfl, rfl, fun b hb => ?_, by show (s.rs ++ [_]).length ≤ _; rw [List.length_append]; exact Nat.le_refl _, rfl, fun r hr => ⟨r, List.mem_append_left _ hr, rfl⟩⟩, fun z hz => ?_⟩
  · show (x.rs ++ [_]).map rho = (s.rs ++ [_]).map rho
    rw [List.map_append, List.map_append, y.er, List.map_singleton, List.map_singleton]
    unfold rho
    rw [y.eFill f]
  · have up : ∀ r ∈ x.rs, ∃ q ∈ (x.made f k t c2 w2).rs, q.w = r.w := fun r hr => ⟨r, List.mem_append_left _ hr, rfl⟩
    rcases List.mem_append.mp (show r ∈ x.rs ++ [_] from hr) with z | z
    · exact (y.vm r z v hv).mono up
    · rw [List.mem_singleton] at z; subst z
      exact .inl (List.eq_of_mem_replicate hv)
  · show t = max s.top (s.used + k)
    rw [ht, y.tp, y.eUsed]
  · rcases made_foot hup b hb with e | e | e
    · exact sx b e
    · rw [e]; exact nw a ha
    · rw [e]; exact nw c hc
  · rcases hb with z | z
    · rcases made_foot hup b z with e | e | e
      · exact .inl e
      · exact .inr (.inr (by rw [e]; exact fr a ha))
      · exact .inr (.inr (by rw [e]; exact fr c hc))
    · rcases xf b z with e | e
      · exact .inr (.inl e)
      · exact .inr (.inr (by rw [e]; exact hc2))
  · refine fr z ?_
    cases e5 : H5 z with
    | none => rfl
    | some o =>
      exfalso
      by_cases hin : z ∈ [s.p, s.gd, s.fd, s.sd, s.hd]
      · obtain ⟨o2, e2, _⟩ := ho6.std z (footS _ z (by
          show z ∈ [s.p, s.h, s.t, s.gd, s.fd, s.sd, s.hd]
          simp only [List.mem_cons, List.not_mem_nil, or_false] at hin ⊢
          rcases hin with z | z | z | z | z <;> simp [z]))
        rw [hz] at e2; cases e2
      · rw [k6 z o e5 hin] at hz; cases hz
end
def spWChained (K : PySem.W.Frag) : Sp := fun vs H Q _ => ∃ (s : HSt) (x : WSt) (b d : Addr) (n : Int) (kvs : List (L2.Key × V)), vs = [.ref b, .ref s.p, .ref x.m, .ref d] ∧ BoxAt H b n ∧ n < 1000000 ∧ Scn K H s x d kvs ∧ s.rs.length ≤ 39 ∧ kvs.length ≤ 40 ∧ b ∉ sfoot s x d ∧
  ∀ H' s' x' kvs', Kp (b :: sfoot s x d) H H' → BoxAt H' b (n + 1000) → s'.p = s.p → x'.m = x.m → Scn K H' s' x' d kvs' → s'.rs.length ≤ 139 → (∀ a, a ∈ s'.foot ∨ a ∈ x'.foot → a ∈ s.foot ∨ a ∈ x.foot ∨ H a = none) → Q (.bl true) H'

end Lw
namespace Lw
open PySem PySem.Spec L2 FG
open PyProof.Rows hiding St
section
variable {P : Program} {w : World} {K : PySem.W.Frag} {mg : Str → Option Value} {base : Heap}
theorem ok_wchained (T : Tx K mg) {fd : FuncData} (F : Fun K "_law_chained" "_law_chained" s__law_chained (He.ga K "_law_chained") fd) (c__law_take : Cal P w K mg base 1 "_law_take" spTake) (c__law_standing : Cal P w K mg base 1 "_law_standing" spWStanding) (c__law_used : Cal P w K mg base 1 "_law_used" spWUsed)
    (c__law_given : Cal P w K mg base 2 "_law_given" spWGiven) (m_make : Met P w K mg base 5 (CH K) "make" (spMake K)) (m_put : Met P w K mg base 5 (CH K) "put" (spPut K)) : FnG P w K mg base 6 (He.ga K "_law_chained") fd ["_law_box_here", "_law_house", "_law_world_here", "_law_hands_here"] (spWChained K) := by
  refine FnG.of F sc__law_chained (fun vs H Q E h => ?_) (fun cdv A outer sh H vs Q E hr h => ?_)
  · obtain ⟨s, x, b, d, n, kvs, rfl, _⟩ := h; rfl
  · obtain ⟨s, x, b, d, n, kvs, rfl, hb, hn, sc, ln, lk, nbf, q⟩ := h
    have hw := sc.hw
    have wf := hw.ho.wf
    have ws := wf.small
    have sl := stand_len x.ts
    have wl := wf.len
    have etl : x.ts.length = s.ts.length := by rw [hw.et]
    have nbs : b ∉ s.foot := fun z => nbf (List.mem_cons_of_mem _ (List.mem_append_left _ z))
    have nbx : b ∉ x.foot := fun z => nbf (List.mem_cons_of_mem _ (List.mem_append_right _ z))
    refine ⟨_, pss_cons (ps_set (i := 4) sc__law_chained.nd rfl (by first | exact Or.inl rfl | exact Or.inr rfl) (gc c__law_standing (hr.mono (by decide)) takes0 (pa_cons (pv 2) (pa_nil))))
      (pss_cons (ps_set (i := 5) sc__law_chained.nd rfl (by first | exact Or.inl rfl | exact Or.inr rfl) (pe_non))
      (pss_cons (ps_set (i := 6) sc__law_chained.nd rfl (by first | exact Or.inl rfl | exact Or.inr rfl) (pe_ix (kixL K) (pe_lst (pa_cons (gc c__law_take (hr.mono (by decide)) takes0 (pa_cons (pv 0) (pa_cons (pe_int) (pa_nil)))) (pa_cons (pe_op op_add (pe_int) (gc c__law_take (hr.mono (by decide)) takes0 (pa_cons (pv 0) (pa_cons (pe_int) (pa_nil))))) (pa_nil)))) (pe_callTy call_int1 (by rfl) T.z_int (by decide +kernel) (pa_cons (pe_cmpR op_eq (gc c__law_take (hr.mono (by decide)) takes0 (pa_cons (pv 0) (pa_cons (pe_int) (pa_nil)))) (pe_int) (by first | exact nomark _ | rfl)) (pa_nil))) (fun _ _ => rfl)))
      (pss_cons (ps_for (passes_of rfl) rfl (pi_range1 rfl T.z_range (pa_cons (pv 6) (pa_nil))) (pg_name (i := 7) sc__law_chained.nd rfl (by first | exact Or.inl rfl | exact Or.inr rfl))
        (pss_cons (ps_set (i := 8) sc__law_chained.nd rfl (by first | exact Or.inl rfl | exact Or.inr rfl) (pe_ix (kixL K) (pv 4) (gc c__law_take (hr.mono (by decide)) takes0 (pa_cons (pv 0) (pa_cons (pe_callB (klen K) (by rfl) T.z_len PySem.boot_len (pa_cons (pv 4) (pa_nil))) (pa_nil)))) (fun _ _ => rfl)))
      (pss_cons (ps_if (pt_cmpR op_lt (pe_op op_sub (pe_dget hr.hu (pv 2) (pe_str) (fun _ _ => rfl)) (gc c__law_used (hr.mono (by decide)) takes0 (pa_cons (pv 2) (pa_nil)))) (pe_int) (by first | exact nomark _ | rfl)) (pss_one (ps_ret (pe_bl))) (pss_nil))
      (pss_cons (ps_set (i := 9) sc__law_chained.nd rfl (by first | exact Or.inl rfl | exact Or.inr rfl) (gc c__law_given (hr.mono (by decide)) takes0 (pa_cons (pv 2) (pa_cons (pv 8) (pa_cons (pe_int) (pa_nil))))))
      (pss_cons (ps_if (pt_cmpR (kneD K hr.r.units) (gm m_make (hr.mono (by decide)) takes0 (pv 1) (pa_cons (pv 8) (pa_cons (pe_int) (pa_nil)))) (pv 9) (by first | exact nomark _ | rfl)) (pss_one (ps_ret (pe_bl))) (pss_nil))
      (pss_cons (ps_if (pt_cmpR op_notN (pv 5) (pe_non) (by first | exact nomark _ | rfl)) (pss_cons (ps_set (i := 10) sc__law_chained.nd rfl (by first | exact Or.inl rfl | exact Or.inr rfl) (gc c__law_take (hr.mono (by decide)) takes0 (pa_cons (pv 0) (pa_cons (pe_int) (pa_nil)))))
      (pss_cons (ps_asg (pv 9) (pg_sub (pe_dget hr.hu (pe_dget hr.hu (pv 2) (pe_str) (fun _ _ => rfl)) (pv 5) (fun _ _ => rfl)) (pv 10) set_list))
      (pss_one (ps_expr (gm m_put (hr.mono (by decide)) takes0 (pv 1) (pa_cons (pv 5) (pa_cons (pv 10) (pa_cons (pv 9) (pa_nil))))))))) (pss_one (ps_if (pt_cmpR op_gt (gc c__law_take (hr.mono (by decide)) takes0 (pa_cons (pv 0) (pa_cons (pe_int) (pa_nil)))) (pe_int) (by first | exact nomark _ | rfl)) (pss_one (ps_dput hr.hu (pv 3) (pe_str) (pv 9) rfl)) (pss_nil))))
      (pss_one (ps_set (i := 5) sc__law_chained.nd rfl (by first | exact Or.inl rfl | exact Or.inr rfl) (pv 9)))))))))
      (pss_one (ps_ret (pe_bl)))))), ?_⟩
    refine ⟨_, rfl, x, rfl, hw.wa, fun l H1 hl1 k1 el => ?_⟩
    have b1 := hb.kp k1 (by simp)
    have nlb : l ≠ b := hb.ne hl1
    refine ⟨_, rfl, b, n, 7, rfl, b1, by omega, by decide, by decide, fun H2 m1 k2 b2 m10 m11 => ?_⟩
    refine ⟨_, rfl, b, _, 90, rfl, b2, by omega, by decide, by decide, fun H3 m2 k3 b3 m20 m21 => ⟨_, _, rfl, rfl, (by show 2 ≤ sizeLine; decide), fun r hr3 => ?_⟩⟩
    have k4 := (Kp.refl (S := []) (H := H3)).new (o := .lst [.int m1, .int (7 + m2)]) hr3
    have er : upd H3 r (.lst [.int m1, .int (7 + m2)]) r = some (.lst [.int m1, .int (7 + m2)]) := upd_same
    have nrb := b3.ne hr3
    have b4 := b3.kp k4 (by simp)
    generalize upd H3 r (.lst [.int m1, .int (7 + m2)]) = H4 at *
    refine ⟨_, rfl, b, _, 8, rfl, b4, by omega, by decide, by decide, fun H5 e k5 b5 e0 e1 => ?_⟩
    obtain ⟨mm, emm, m0, m96⟩ : ∃ mm : Int, atI [V.int m1, .int (7 + m2)] (if decide (V.int e = V.int 0) = true then 1 else 0) = some (.int mm) ∧ 0 ≤ mm ∧ mm ≤ 96 := by
      by_cases h : V.int e = V.int 0
      · rw [if_pos (decide_eq_true h)]; exact ⟨_, rfl, by omega, by omega⟩
      · rw [if_neg (by rw [decide_eq_false h]; decide)]; exact ⟨_, rfl, by omega, by omega⟩
    refine ⟨rfl, .inr ⟨_, rfl, r, _, _, _, rfl, rfl, SqL.of ((k5 r nrb).trans er), emm, ?_⟩⟩
    have K5 : Kp [b] H H5 := ((((k1.mono (by simp)).trans k2.kp).trans k3.kp).trans (k4.mono (by simp))).trans k5.kp
    have hbn : H b ≠ none := by obtain ⟨_, _, _, e, _⟩ := hb; rw [e]; exact fun z => by cases z
    have fr5 : ∀ z, H5 z = none → H z = none := fun z hz => K5.fr1 b5 hz
    have sc5 : Scn K H5 s x d kvs := sc.kp K5 (fun a ha => by rw [List.mem_singleton] at ha; rw [ha]; exact nbf) hb.nt
    have lold : ∀ {c o}, H c = some o → c ≠ l := fun ec => ne_of_none ec hl1
    have nlf : l ∉ sfoot s x d := fun z => by obtain ⟨o, e, _⟩ := sc.std l z; rw [hl1] at e; cases e
    have el5 : H5 l = some (.lst ((stand x.ts).map nint)) := (k5 l nlb).trans (k4 _ _ ((k3 l nlb).trans ((k2 l nlb).trans el)) (by simp))
    have pos : 0 < (stand x.ts).length := List.length_pos_of_mem (mem_stand.mpr (by rw [hw.et]; exact hw.gr) : (0 : Nat) ∈ stand x.ts)
    refine ⟨_, rfl, _, rfl, (by omega), (by omega), for_range (lo := 0) (n := _) (fun i σ H' => ∃ (s' : HSt) (x' : WSt) (kvs' : List (L2.Key × V)) (lv : V) (v7 v8 v9 v10 : Option V), σ = [some (.ref b), some (.ref s.p), some (.ref x.m), some (.ref d), some (.ref l), some lv, some (.int mm), v7, v8, v9, v10] ∧ Scn K H' s' x' d kvs' ∧ s'.p = s.p ∧ x'.m = x.m ∧
        BoxAt H' b (n + 3 + 3 * i) ∧ Kp (b :: sfoot s x d) H H' ∧ (∀ z, H' z = none → H z = none) ∧ H' l = some (.lst ((stand x.ts).map nint)) ∧ s'.rs.length ≤ 39 + i ∧ x'.ts = x.ts ∧ (∀ a, a ∈ s'.foot ∨ a ∈ x'.foot → a ∈ s.foot ∨ a ∈ x.foot ∨ H a = none) ∧ (∀ a ∈ sfoot s' x' d, a ≠ l) ∧ (lv = .non ∧ kvs'.length ≤ 40 ∨ ∃ r ∈ x'.here, lv = .ref r.w ∧ r.cells.length = 2))
      ⟨s, x, kvs, .non, _, _, _, _, rfl, sc5, rfl, rfl, b5.more (by omega), K5.mono (by simp), fr5, el5, by omega, rfl, fun a ha => ha.elim .inl fun z => .inr (.inl z), fun a ha z => nlf (z ▸ ha), .inl ⟨rfl, lk⟩⟩ ?_ ?_⟩
    · rintro i σ H6 hi ⟨s', x', kvs', lv, v7, v8, v9, v10, rfl, sc6, ep, em, b6, K6, al6, el6, ln6, ets, gf, nl6, hlv⟩
      have hi96 : i < 96 := by omega
      have nb6 : b ∉ sfoot s' x' d := fun z => by
        rcases List.mem_cons.mp z with z | z
        · exact nbf (by rw [← z]; exact List.mem_cons_self)
        · rcases gf b (List.mem_append.mp z) with h | h | h
          · exact nbs h
          · exact nbx h
          · exact hbn h
      refine ⟨_, rfl, _, rfl, _, rfl, l, _, rfl, .inl (SqL.of el6), b, _, _, rfl, b6, by omega, (by rw [List.length_map]; omega), (Int.lt_of_le_of_lt (by rw [List.length_map]; omega : _ ≤ (1000 : Int)) (by decide)), fun H7 e7 k7 b7 d0 d1 => ?_⟩
      obtain ⟨v, hv, ev⟩ := at_any d0 d1
      obtain ⟨f, hf, rfl⟩ := List.mem_map.mp hv
      have hupx : x'.ts[f]? = some none := by rw [ets]; exact mem_stand.mp hf
      refine ⟨l, _, _, _, rfl, rfl, SqL.of ((k7 l nlb).trans el6), ev, ?_⟩
      have sc7 : Scn K H7 s' x' d kvs' := sc6.kp k7.kp (fun a ha => by rw [List.mem_singleton] at ha; rw [ha]; exact nb6) b6.nt
      have el7 := (k7 l nlb).trans el6
      have K7 : Kp (b :: sfoot s x d) H H7 := K6.trans (k7.kp.mono (by simp))
      have hw7 := sc7.hw
      have wf7 := hw7.ho.wf
      have ws7 := wf7.small
      have hups : s'.ts[f]? = some none := by rw [← hw7.et]; exact hupx
      have hfx : f < x'.hs.length := by rw [hw7.eh]; have := (List.getElem?_eq_some_iff.mp hups).1; have := wf7.len; omega
      have lx7 : x'.rs.length ≤ 200 := by rw [hw7.len]; omega
      rw [← ep, ← em]
      refine ⟨_, rfl, x'.m, _, rfl, hw7.wa.get0, _, rfl, x', rfl, hw7.wa.d, x'.here, hw7.wa.lc, hw7.wa.cl, (by have := x'.sub.length_le; omega), fun H8 k8 => ⟨_, _, rfl, rfl, _, _, rfl, rfl, _, rfl, ?_⟩⟩
      have sc8 := sc7.kp0 k8
      have hw8 := sc8.hw
      have b8 := b7.kp k8 (by simp)
      have K8 : Kp (b :: sfoot s x d) H H8 := K7.trans (k8.mono (by simp))
      have el8 := k8 _ _ el7 (by simp)
      refine iteB (fun _ => ?_) (fun hlt => ?_)
      · exact q H8 s' x' kvs' K8 (b8.more (by omega)) ep em sc8 (by omega) gf
      have hlt' : ¬ ((x'.lim : Int) - (szs x'.here : Int) < 2) := of_decide_eq_false hlt
      have hle2 : s'.used + 2 ≤ s'.most := by
        have h2 := hw8.eUsed
        have h3 := hw8.lim
        rw [h2, h3] at hlt'
        omega
      refine ⟨_, rfl, _, rfl, x', f, 2, rfl, hw8.wa, hfx, hupx, by decide, by omega, hw8.fresh f, fun c2 w2 H9 hc2 hw2 k9 wa9 fo9 ew9 => ?_⟩
      have ho9 : HoAt (CH K) H9 s' := hw8.ho.kp k9 (fun a ha z => hw8.dj a z ha) (not_tup hw8.wa.std fun a ha => ha)
      obtain ⟨dx, fs, e9, ff, _⟩ := ho9.ob
      walk_at "nx"
      refine ⟨_, rfl, s'.p, dx, fs, rfl, e9, ff.no _ (by decide +kernel), _, rfl, s', f, 2, rfl, ho9, hups, by decide, by decide, by omega, fun _ a c w H10 ha hc hwn k10 ho10 => ?_, fun no => absurd no (by omega)⟩
      obtain ⟨m10, k810, g10, al10⟩ := hw8.makeR hups k9 wa9 fo9 hc2 rfl ha hc k10 ho10
      have eW : H10 w = some (.tup [.int (f : Int), .int (s'.fill f : Int)]) := m10.ho.wl _ (List.mem_append_right _ (List.mem_singleton.mpr rfl))
      have eW2 : H10 w2 = some (.tup [.int (f : Int), .int (s'.fill f : Int)]) := by
        rw [← hw8.eFill f]
        exact m10.wa.wl _ (List.mem_append_right _ (List.mem_singleton.mpr rfl))
      refine ⟨_, rfl, wayD f (s'.fill f), wayD f (s'.fill f), dp_way eW, dp_way eW2, shaped_way _ _, shaped_way _ _, ?_⟩
      rw [eqv_self (shaped_way _ _)]
      refine ⟨_, rfl, iteF ?_⟩
      -- the new room
      obtain ⟨s1, es1⟩ : ∃ s1, s1 = s'.made f 2 a c w := ⟨_, rfl⟩
      obtain ⟨x1, ex1⟩ : ∃ x1, x1 = x'.made f 2 (max x'.top (szs x'.here + 2)) c2 w2 := ⟨_, rfl⟩
      rw [← es1, ← ex1] at m10 g10
      obtain ⟨gp, gm, gfoot, glen, gmost, gw⟩ := g10
      have new : (⟨f, szs (x'.giv f), List.replicate 2 .non, c2, w2⟩ : Rm) ∈ x1.here := by rw [ex1, wmade_here hupx]; simp
      have ets1 : x1.ts = x.ts := by rw [ex1]; exact ets
      have fr8 : ∀ z, H8 z = none → H z = none := fun z hz => al6 z (k7.kp.fr1 b7 (k8.free hz))
      have hb6 : b ∉ s'.foot ++ x'.foot := fun z => nb6 (List.mem_cons_of_mem _ z)
      have K10 : Kp (b :: sfoot s x d) H H10 := fun c' o ec hc => k810 c' o (K8 c' o ec hc) fun z => by
        rcases gf c' (List.mem_append.mp z) with h | h | h
        · exact hc (List.mem_cons_of_mem _ (List.mem_cons_of_mem _ (List.mem_append_left _ h)))
        · exact hc (List.mem_cons_of_mem _ (List.mem_cons_of_mem _ (List.mem_append_right _ h)))
        · rw [h] at ec; cases ec
      have gf1 : ∀ z, z ∈ s1.foot ∨ z ∈ x1.foot → z ∈ s.foot ∨ z ∈ x.foot ∨ H z = none := fun z hz => by
        rcases gfoot z hz with h | h | h
        · exact gf z (.inl h)
        · exact gf z (.inr h)
        · exact .inr (.inr (fr8 z h))
      have al1 : ∀ z, H10 z = none → H z = none := fun z hz => fr8 z (al10 z hz)
      have nd1 : ∀ z, z ∈ s1.foot ∨ z ∈ x1.foot → z ≠ d := fun z hz e => by
        rcases gfoot z hz with h | h | h
        · exact sc8.n1 (e ▸ h)
        · exact sc8.n2 (e ▸ h)
        · rw [e, sc8.ed] at h; cases h
      have nl1 : ∀ z ∈ sfoot s1 x1 d, z ≠ l := fun z hz e => by
        rcases List.mem_cons.mp hz with h | h
        · exact nl6 z (by rw [h]; exact List.mem_cons_self) e
        · rcases gfoot z (List.mem_append.mp h) with h | h | h
          · exact nl6 z (List.mem_cons_of_mem _ (List.mem_append_left _ h)) e
          · exact nl6 z (List.mem_cons_of_mem _ (List.mem_append_right _ h)) e
          · rw [e, el8] at h; cases h
      have b10 := b8.kp k810 hb6
      have el10 := k810 _ _ el8 fun z => nl6 l (List.mem_cons_of_mem _ z) rfl
      have ed10 := k810 _ _ sc8.ed fun z => by
        rcases List.mem_append.mp z with z | z
        · exact sc8.n1 z
        · exact sc8.n2 z
      have sc10 : Scn K H10 s1 x1 d kvs' := ⟨m10, ed10, sc8.hd.more gw, fun z => nd1 d (.inl z) rfl, fun z => nd1 d (.inr z) rfl, by omega⟩
      have nb1 : b ∉ sfoot s1 x1 d := fun z => by
        rcases List.mem_cons.mp z with z | z
        · exact nbf (by rw [← z]; exact List.mem_cons_self)
        · rcases gf1 b (List.mem_append.mp z) with h | h | h
          · exact nbs h
          · exact nbx h
          · exact hbn h
      walk_at "nx"
      refine cut_seq (fun σ' H' => ∃ (s2 : HSt) (x2 : WSt) (kvs2 : List (L2.Key × V)) (u7 u8 u10 : Option V), σ' = [some (.ref b), some (.ref s'.p), some (.ref x'.m), some (.ref d), some (.ref l), some lv, some (.int mm), u7, u8, some (.ref w2), u10] ∧ Scn K H' s2 x2 d kvs2 ∧ s2.p = s'.p ∧ x2.m = x'.m ∧
        BoxAt H' b (n + 3 + 3 * i + 3) ∧ Kp (b :: sfoot s x d) H H' ∧ (∀ z, H' z = none → H z = none) ∧ H' l = some (.lst ((stand x.ts).map nint)) ∧ s2.rs.length ≤ 39 + (i + 1) ∧ x2.ts = x.ts ∧ (∀ a, a ∈ s2.foot ∨ a ∈ x2.foot → a ∈ s.foot ∨ a ∈ x.foot ∨ H a = none) ∧ (∀ a ∈ sfoot s2 x2 d, a ≠ l) ∧ ∃ r ∈ x2.here, r.w = w2 ∧ r.cells.length = 2) (fun nx q' => ?_) ?_
      · refine ⟨_, rfl, rfl, _, rfl, ?_⟩
        rcases hlv with ⟨rfl, lk'⟩ | ⟨r0, hr0, rfl, hl0⟩
        · refine iteF ⟨_, rfl, b, _, 3, rfl, b10, by omega, by decide, by decide, fun H11 e11 k11 b11 _ _ => ⟨_, _, rfl, rfl, _, rfl, ?_⟩⟩
          have sc11 : Scn K H11 s1 x1 d kvs' := sc10.kp k11.kp (fun a ha => by rw [List.mem_singleton] at ha; rw [ha]; exact nb1) b10.nt
          have K11 : Kp (b :: sfoot s x d) H H11 := K10.trans (k11.kp.mono (by simp))
          have al11 : ∀ z, H11 z = none → H z = none := fun z hz => al1 z (k11.kp.fr1 b11 hz)
          have el11 := (k11 l nlb).trans el10
          refine iteB (fun _ => ?_) (fun _ => ?_)
          · refine ⟨_, rfl, _, rfl, d, _, rfl, DPut.k (k := .inr "chain") sc11.ed (by have := sc11.hd.ln; exact sz_lt (by omega)), ?_⟩
            have kd : Kp [d] H11 (upd H11 d (.dK (putK kvs' (.inr "chain") (.ref w2)))) := kp_upd
            have ndl : d ≠ l := nl1 d List.mem_cons_self
            have ndb : d ≠ b := fun z => nb1 (by rw [← z]; exact List.mem_cons_self)
            have hw12 := sc11.hw.kp kd (fun a ha => by rw [List.mem_singleton] at ha; rw [ha]; exact sc11.n1) (fun a ha => by rw [List.mem_singleton] at ha; rw [ha]; exact sc11.n2) (fun a ha xs e => by rw [List.mem_singleton] at ha; rw [ha, sc11.ed] at e; cases e)
            have vmw : ValM x1.rs (.ref w2) := .inr (.inr ⟨_, x1.sub.subset new, rfl⟩)
            have hd2 : HdP x1.rs (putK kvs' (.inr "chain") (.ref w2)) := by
              refine ⟨fun p hp => ?_, fun p hp => ?_, putK_nd sc11.hd.nd, ?_⟩
              · rcases putK_mem hp with z | z
                · exact sc11.hd.nm p z
                · rw [z]; exact ⟨_, rfl, by decide +kernel⟩
              · rcases putK_mem hp with z | z
                · exact sc11.hd.vm p z
                · rw [z]; exact vmw
              · have := length_putK kvs' (.inr "chain") (.ref w2); omega
            refine q' _ _ ⟨s1, x1, _, _, _, _, rfl, ⟨hw12, upd_same, hd2, sc11.n1, sc11.n2, sc11.ln⟩, gp, gm, (b11.kp kd (by simpa using ndb.symm)).more (by omega), K11.trans (kd.mono fun z hz => by rw [List.mem_singleton] at hz; rw [hz]; exact List.mem_cons_of_mem _ List.mem_cons_self), fun z hz => al11 z ?_, (upd_ne ndl.symm).trans el11, by omega, ets1, gf1, nl1, _, new, rfl, by simp⟩
            by_cases zd : z = d
            · rw [zd, upd_same] at hz; cases hz
            · rwa [upd_ne zd] at hz
          · exact q' _ _ ⟨s1, x1, kvs', _, _, _, rfl, sc11, gp, gm, b11.more (by omega), K11, al11, el11, by omega, ets1, gf1, nl1, _, new, rfl, by simp⟩
        · have hrh : r0 ∈ x1.here := by rw [ex1, wmade_here hupx]; exact List.mem_append_left _ hr0
          have hrx := x1.sub.subset hrh
          refine iteT ⟨_, rfl, b, _, 2, rfl, b10, by omega, by decide, by decide, fun H11 e11 k11 b11 g0 g1 => ?_⟩
          have sc11 : Scn K H11 s1 x1 d kvs' := sc10.kp k11.kp (fun a ha => by rw [List.mem_singleton] at ha; rw [ha]; exact nb1) b10.nt
          have m11 := sc11.hw
          have K11 : Kp (b :: sfoot s x d) H H11 := K10.trans (k11.kp.mono (by simp))
          have al11 : ∀ z, H11 z = none → H z = none := fun z hz => al1 z (k11.kp.fr1 b11 hz)
          have el11 := (k11 l nlb).trans el10
          obtain ⟨k, rfl⟩ : ∃ k : Nat, e11 = k := ⟨e11.toNat, by omega⟩
          have hkl : k < r0.cells.length := by rw [hl0]; omega
          have vmw : ValM x1.rs (.ref w2) := .inr (.inr ⟨_, x1.sub.subset new, rfl⟩)
          rw [← gm]
          refine ⟨_, rfl, _, rfl, x1.m, _, rfl, m11.wa.get5, _, rfl, x1.c, _, rfl, m11.wa.getR hrh (m11.wa.wl r0 hrx), _, rfl, r0.c, _, _, k, rfl, rfl, m11.wa.cl r0 hrh, ixN_n hkl, ?_⟩
          obtain ⟨H12, eH12⟩ : ∃ H12, H12 = upd H11 r0.c (.lst (r0.cells.set k (.ref w2))) := ⟨_, rfl⟩
          have k12 : Kp [r0.c] H11 H12 := fun a o e n => by rw [eH12, upd_ne (by simpa using n)]; exact e
          have w12 : H12 r0.c = some (.lst (r0.cells.set k (.ref w2))) := by rw [eH12, upd_same]
          walk_at "nx"
          rw [← eH12]
          have crx : r0.c ∈ x1.foot := x1.fc r0 hrh
          have ho12 : HoAt (CH K) H12 s1 := m11.ho.kp k12 (fun a ha z => by rw [List.mem_singleton] at ha; rw [ha] at z; exact m11.dj _ z crx) (not_tup m11.wa.std fun a ha => by rw [List.mem_singleton] at ha; rw [ha]; exact crx)
          have ew12 : H12 r0.w = some (.tup [.int (r0.f : Int), .int (r0.o : Int)]) := k12 _ _ (m11.wa.wl r0 hrx) fun z => by
            rw [List.mem_singleton] at z
            have := m11.wa.cl r0 hrh
            rw [← z, m11.wa.wl r0 hrx] at this; cases this
          have vk11 := m11.vok vmw
          have vk12 : VOk H12 s1.rs (.ref w2) := vk11.kp fun a xs e => k12 _ _ e fun z => by
            rw [List.mem_singleton] at z
            rw [z, m11.wa.cl r0 hrh] at e; cases e
          obtain ⟨dx2, fs2, e12, ff2, _⟩ := ho12.ob
          rw [← gp]
          refine ⟨_, rfl, s1.p, dx2, fs2, rfl, e12, ff2.no _ (by decide +kernel), _, rfl, _, rfl, _, rfl, s1, r0.w, r0.f, r0.o, (k : Int), .ref w2, rfl, ho12, ew12, .inl vk12, m11.touch hrh fun p hp e1 e2 e3 H13 k13 => ⟨fun _ => ⟨fun vk13 H14 k14 ho14 ec14 => ?_, fun q' eq' a' b' h8 no => ?_⟩, fun no => absurd ⟨by omega, by rw [e3]; omega⟩ no⟩⟩
          · rw [Int.toNat_natCast] at ho14
            have k1213 : Kp [r0.c] H11 H13 := k12.trans (k13.mono (by simp))
            obtain ⟨m14, k1114, g14⟩ := m11.put2 hrh hp e1 e2 vmw k1213 (k13 _ _ w12 (by simp)) k14 ho14
            obtain ⟨_, ef⟩ := m11.wa.setc (k := k) (v := .ref w2) hrh k1213 (k13 _ _ w12 (by simp))
            obtain ⟨tp, tm, tf, tl, tmo, tw⟩ := g14
            have fin : ∀ z, z ∈ (s1.setc r0.f r0.o k (.ref w2)).foot ∨ z ∈ (x1.setc r0.f r0.o k (.ref w2)).foot → z ∈ s1.foot ∨ z ∈ x1.foot := fun z hz => by
              rw [set_foot, ef] at hz; exact hz
            have ndf : d ∉ s1.foot ++ x1.foot := fun z => nd1 d (List.mem_append.mp z) rfl
            have nlf1 : l ∉ s1.foot ++ x1.foot := fun z => nl1 l (List.mem_cons_of_mem _ z) rfl
            have nbf1 : b ∉ s1.foot ++ x1.foot := fun z => nb1 (List.mem_cons_of_mem _ z)
            have al14 : ∀ z, H14 z = none → H z = none := fun z hz => by
              refine al11 z ?_
              cases e5 : H11 z with
              | none => rfl
              | some o =>
                exfalso
                by_cases hin : z ∈ s1.foot ++ x1.foot
                · rcases List.mem_append.mp hin with h | h
                  · obtain ⟨o2, e2, _⟩ := m14.ho.std z (by rw [set_foot]; exact h)
                    rw [hz] at e2; cases e2
                  · obtain ⟨o2, e2, _⟩ := m14.wa.std z (by rw [ef]; exact h)
                    rw [hz] at e2; cases e2
                · rw [k1114 z o e5 hin] at hz; cases hz
            have len14 : (s1.setc r0.f r0.o k (.ref w2)).rs.length = s1.rs.length := by show (s1.rs.map _).length = _; rw [List.length_map]
            have sc14 : Scn K H14 (s1.setc r0.f r0.o k (.ref w2)) (x1.setc r0.f r0.o k (.ref w2)) d kvs' := ⟨m14, k1114 _ _ sc11.ed ndf, sc11.hd.more tw, fun z => nd1 d (fin d (.inl z)) rfl, fun z => nd1 d (fin d (.inr z)) rfl, by rw [len14]; omega⟩
            have newin : setR r0.f r0.o k (.ref w2) ⟨f, szs (x'.giv f), List.replicate 2 .non, c2, w2⟩ ∈ (x1.setc r0.f r0.o k (.ref w2)).here := by
              rw [wset_here]; exact List.mem_map.mpr ⟨_, new, rfl⟩
            have sq := setR_eq r0.f r0.o k (.ref w2) (⟨f, szs (x'.giv f), List.replicate 2 .non, c2, w2⟩ : Rm)
            refine q' _ _ ⟨_, _, kvs', _, _, _, by rw [gp, gm]; rfl, sc14, gp, gm, (b11.kp k1114 nbf1).more (by omega), fun c' o ec hc => k1114 c' o (K11 c' o ec hc) fun z => ?_, al14, k1114 _ _ el11 nlf1, by rw [len14]; omega, ets1, fun z hz => gf1 z (fin z hz), fun z hz => ?_, _, newin, sq.2.2.2.1, by rw [sq.2.2.2.2]; simp⟩
            · rcases gf1 c' (List.mem_append.mp z) with h | h | h
              · exact hc (List.mem_cons_of_mem _ (List.mem_cons_of_mem _ (List.mem_append_left _ h)))
              · exact hc (List.mem_cons_of_mem _ (List.mem_cons_of_mem _ (List.mem_append_right _ h)))
              · rw [h] at ec; cases ec
            · rcases List.mem_cons.mp hz with h | h
              · rw [h]; exact nl1 d List.mem_cons_self
              · rcases fin z (List.mem_append.mp h) with h | h
                · exact nl1 z (List.mem_cons_of_mem _ (List.mem_append_left _ h))
                · exact nl1 z (List.mem_cons_of_mem _ (List.mem_append_right _ h))
          · exact absurd no (fun no => vok_no vk12 k13 eq' h8 no)
      · rintro σ' H11 ⟨s2, x2, kvs2, u7, u8, u10, rfl, sc11, ep2, em2, b11, K11, al11, el11, ln11, ets11, gf11, nl11, r11, hr11, ew11, hl11⟩
        exact ⟨_, rfl, s2, x2, kvs2, .ref w2, _, _, _, _, rfl, sc11, ep2, em2, b11.more (by push_cast; omega), K11, al11, el11, ln11, ets11, gf11, nl11, .inr ⟨r11, hr11, by rw [ew11], hl11⟩⟩
    · rintro σ H6 ⟨s', x', kvs', lv, v7, v8, v9, v10, rfl, sc6, ep, em, b6, K6, al6, el6, ln6, ets, gf, _, hlv⟩
      exact q H6 s' x' kvs' K6 (b6.more (by omega)) ep em sc6 (by omega) gf
end

end Lw
namespace Lw
open PySem PySem.Spec L2 FG
open PyProof.Rows hiding St
/-! ### rows that stand there -/
def StepIn (x : WSt) (kv : List (L2.Key × V)) : St0 → Prop
  | .hand k v => (k, v) ∈ kv
  | .room f o k v => ∃ r ∈ x.here, r.f = f ∧ r.o = o ∧ r.cells[k]? = some v
structure Wk (H : Hp) (vd : V → PyData) (x : WSt) (kv : List (L2.Key × V)) (ps : List (Nat × Nat)) (r : Row) : Prop where
  rp : RP H vd ps r
  inn : ∀ s ∈ r, StepIn x kv s
  ch : ∀ (i : Nat) (s t : St0), r[i]? = some s → r[i + 1]? = some t → ∃ f o k v, t = .room f o k v ∧ wayOf (vd s.val) = (f, o)
  ok : ∀ s ∈ r, StOk H vd s
theorem cells_at {vd : V → PyData} {ps : List (Nat × Nat)} {t : Tr} {n : Nat} : ∀ s ∈ cellsD vd ps t n, ∃ k v, s = .room t.1 t.2.1 k v ∧ t.2.2[k]? = some v := by
  intro s hs
  obtain ⟨c, hc, rfl⟩ := List.mem_map.mp hs
  have := List.mem_zipIdx (x := c.1) (i := c.2) (k := 0) (by simpa using List.mem_of_mem_take (List.mem_filter.mp hc).1)
  obtain ⟨_, h5, h6⟩ := this
  have h5 : c.2 < t.2.2.length := by omega
  exact ⟨c.2, c.1, rfl, by rw [List.getElem?_eq_getElem h5]; exact congrArg some (by simpa using h6.symm)⟩
theorem rows_wk {H : Hp} {vd : V → PyData} {x : WSt} {kv : List (L2.Key × V)} {f : Nat} (kn : (x.rs.map fun r => (r.f, r.o)).Nodup) (sm : ∀ r ∈ x.rs, r.f < 10000 ∧ r.o < 10000) (h6 : ∀ r ∈ x.rs, r.cells.length ≤ 6) (hn : ∀ p ∈ kv, ∃ z : Str, p.1 = .inr z ∧ nameS z = true)
    (hkv : ∀ p ∈ kv, Vd H p.2 (vd p.2)) (hcv : ∀ r ∈ x.here, ∀ v ∈ r.cells, Vd H v (vd v)) (i : Nat) : Gd (keyR vd) List.length (Wk H vd x kv (insP x.hs x.ts (x.rs.map rho) f)) (rowsOf vd x.hs x.ts (x.rs.map rho) f kv i) := by
  have alR : ∀ t ∈ allR x.ts (x.rs.map rho), ∃ r ∈ x.here, rho r = t := fun t ht => by
    rw [← allW_rho] at ht
    obtain ⟨r, hr, e⟩ := List.mem_map.mp ht
    exact ⟨r, mem_all.mp hr, e⟩
  have roomok : ∀ (r : Rm), r ∈ x.here → ∀ n, ∀ s ∈ cellsD vd (insP x.hs x.ts (x.rs.map rho) f) (rho r) n, StepIn x kv s ∧ StOk H vd s ∧ Vd H s.val (vd s.val) ∧ inB (insP x.hs x.ts (x.rs.map rho) f) (vd s.val) = true := fun r hr n s hs => by
    obtain ⟨k, v, rfl, hk⟩ := cells_at s hs
    have hrs := x.sub.subset hr
    have hk2 : r.cells[k]? = some v := hk
    have hv := hcv r hr v (List.mem_of_getElem? hk2)
    have hl := (List.getElem?_eq_some_iff.mp hk2).1
    have := h6 r hrs
    exact ⟨⟨r, hr, rfl, rfl, hk2⟩, ⟨(sm r hrs).1, (sm r hrs).2, by omega, hv⟩, hv, (cells_in _ hs).1⟩
  unfold rowsOf
  refine SQ_good (fun r hr => ?_) (fun r hr q hq => ?_) i
  · obtain ⟨s, hs, rfl⟩ := List.mem_map.mp hr
    have hin := steps_in s hs
    have one : StepIn x kv s ∧ StOk H vd s ∧ Vd H s.val (vd s.val) := by
      rcases List.mem_append.mp hs with z | z
      · obtain ⟨p, hp, rfl⟩ := List.mem_map.mp z
        have hp := (List.mem_filter.mp hp).1
        exact ⟨hp, ⟨hn p hp, hkv p hp⟩, hkv p hp⟩
      · obtain ⟨t, ht, z⟩ := List.mem_flatMap.mp z
        obtain ⟨r, hr, rfl⟩ := alR t (List.mem_filter.mp ht).1
        obtain ⟨a, b, c, _⟩ := roomok r hr _ s z
        exact ⟨a, b, c⟩
    refine ⟨⟨RP.one one.2.2 hin, fun t ht => ?_, fun i a b ha hb => ?_, fun t ht => ?_⟩, by simp⟩
    · rw [List.mem_singleton] at ht; rw [ht]; exact one.1
    · rw [List.getElem?_eq_none (by simp)] at hb; cases hb
    · rw [List.mem_singleton] at ht; rw [ht]; exact one.2.1
  · obtain ⟨s, hs, rfl⟩ := List.mem_map.mp hq
    obtain ⟨q', f', o', _, _, ek, hin⟩ := hr.rp.to
    obtain ⟨r2, hr2, hup2, _, e2⟩ := mem_insP.mp hin
    have hh2 : r2 ∈ x.here := mem_whr.mpr ⟨hr2, hup2⟩
    have e3 : roomT (x.rs.map rho) (keyR vd r) = rho r2 := by rw [ek, e2]; exact roomT_rho kn hr2
    rw [e3] at hs
    obtain ⟨a, b, c, d⟩ := roomok r2 hh2 _ s hs
    obtain ⟨k, v, rfl, _⟩ := cells_at s hs
    refine ⟨⟨hr.rp.snoc c d, fun t ht => ?_, fun i a' b' ha hb => ?_, fun t ht => ?_⟩, by simp⟩
    · rcases List.mem_append.mp ht with z | z
      · exact hr.inn t z
      · rw [List.mem_singleton] at z; rw [z]; exact a
    · by_cases hi : i + 1 < r.length
      · rw [List.getElem?_append_left (by omega)] at ha
        rw [List.getElem?_append_left hi] at hb
        exact hr.ch i a' b' ha hb
      · have hi2 : i + 1 = r.length := by
          have := (List.getElem?_eq_some_iff.mp hb).1
          rw [List.length_append] at this
          simp at this; omega
        rw [List.getElem?_append_left (by omega)] at ha
        rw [List.getElem?_append_right (by omega), hi2, Nat.sub_self] at hb
        cases hb
        refine ⟨_, _, k, v, rfl, ?_⟩
        have hl : lastS r = a' := by
          unfold lastS
          rw [List.getLast?_eq_getElem?, show r.length - 1 = i by omega, ha]; rfl
        rw [← hl]
        exact ek.trans e2
    · rcases List.mem_append.mp ht with z | z
      · exact hr.ok t z
      · rw [List.mem_singleton] at z; rw [z]; exact b

end Lw
namespace Lw
open PySem PySem.Spec L2 FG
open PyProof.Rows hiding St
def spWWalks (K : PySem.W.Frag) : Sp := fun vs H Q _ => ∃ (x : WSt) (e a : Addr) (kv : List (L2.Key × V)) (vd : V → PyData) (ps : List (Nat × Nat)) (r : Row), vs = [.ref x.m, .ref e, .ref a] ∧ WAt H x ∧ H e = some (.dK kv) ∧ (kv.map (·.1)).Nodup ∧ StL K H a r ∧ Wk H vd x kv ps r ∧ ∀ H', Kp [] H H' → Q (.bl true) H'
section
variable {P : Program} {w : World} {K : PySem.W.Frag} {mg : Str → Option Value} {base : Heap}
/-- the cell that a step speaks of -/
theorem room_cell {K : PySem.W.Frag} {H : Hp} {x : WSt} {kv : List (L2.Key × V)} {p : Addr} {f o k : Nat} {v : V} (y : WAt H x) (h : StepAt H p (.room f o k v)) (i : StepIn x kv (.room f o k v)) : ∃ (q : Addr) (r : Rm), H p = some (.tup [.str "room", .ref q, .int (k : Nat), v]) ∧ H q = some (.tup [.int (f : Int), .int (o : Int)]) ∧ r ∈ x.here ∧ DGet H x.c (.ref q) (some (.ref r.c)) ∧ H r.c = some (.lst r.cells) ∧ r.cells[k]? = some v := by
  obtain ⟨q, e1, e2⟩ := h
  obtain ⟨r, hr, rfl, rfl, hk⟩ := i
  exact ⟨q, r, e1, e2, hr, y.getR hr e2, y.cl r hr, hk⟩
theorem ok_wwalks (T : Tx K mg) {fd : FuncData} (F : Fun K "_law_walks" "_law_walks" s__law_walks (He.ga K "_law_walks") fd) : FnG P w K mg base 1 (He.ga K "_law_walks") fd ["_law_world_here", "_law_hands_here", "_law_row_here"] (spWWalks K) := by
  refine FnG.of F sc__law_walks (fun vs H Q E h => ?_) (fun cdv A outer sh H vs Q E hr h => ?_)
  · obtain ⟨x, e, a, kv, vd, ps, r, rfl, _⟩ := h; rfl
  · obtain ⟨x, e, a, kv, vd, ps, r, rfl, y, ee, nd, st, wk, q⟩ := h
    refine ⟨_, pss_cons (ps_if (pt_cmpR op_eq (pe_ix (kixT K) (pe_ix (kixL K) (pv 2) (pe_int) (fun _ _ => rfl)) (pe_int) (fun _ _ => rfl)) (pe_str) (by first | exact nomark _ | rfl)) (pss_one (ps_if (pt_cmpR (kneD K hr.r.units) (pe_dget hr.hu (pv 1) (pe_ix (kixT K) (pe_ix (kixL K) (pv 2) (pe_int) (fun _ _ => rfl)) (pe_int) (fun _ _ => rfl)) (fun _ _ => rfl)) (pe_ix (kixT K) (pe_ix (kixL K) (pv 2) (pe_int) (fun _ _ => rfl)) (pe_int) (fun _ _ => rfl)) (by first | exact nomark _ | rfl)) (pss_one (ps_ret (pe_bl))) (pss_nil))) (pss_one (ps_if (pt_cmpR (kneD K hr.r.units) (pe_ix (kixL K) (pe_dget hr.hu (pe_dget hr.hu (pv 0) (pe_str) (fun _ _ => rfl)) (pe_ix (kixT K) (pe_ix (kixL K) (pv 2) (pe_int) (fun _ _ => rfl)) (pe_int) (fun _ _ => rfl)) (fun _ _ => rfl)) (pe_ix (kixT K) (pe_ix (kixL K) (pv 2) (pe_int) (fun _ _ => rfl)) (pe_int) (fun _ _ => rfl)) (fun _ _ => rfl)) (pe_ix (kixT K) (pe_ix (kixL K) (pv 2) (pe_int) (fun _ _ => rfl)) (pe_int) (fun _ _ => rfl)) (by first | exact nomark _ | rfl)) (pss_one (ps_ret (pe_bl))) (pss_nil))))
      (pss_cons (ps_for (passes_of rfl) rfl (pi_zip (by rfl) T.z_zip (pa_cons (pv 2) (pa_cons (pe_slice (kslL K) (pv 2) (po_some (pe_int)) (po_none)) (pa_nil)))) (kgT K rfl (pgs_cons (pg_name (i := 3) sc__law_walks.nd rfl (by first | exact Or.inl rfl | exact Or.inr rfl)) (pgs_cons (pg_name (i := 4) sc__law_walks.nd rfl (by first | exact Or.inl rfl | exact Or.inr rfl)) (pgs_nil))))
        (pss_one (ps_if (PW.pt (pw_or (pt_cmpR op_ne (pe_ix (kixT K) (pv 4) (pe_int) (fun _ _ => rfl)) (pe_str) (by first | exact nomark _ | rfl)) (pw_or (pt_cmpR (kneD K hr.r.units) (pe_ix (kixT K) (pv 4) (pe_int) (fun _ _ => rfl)) (pe_ix (kixT K) (pv 3) (pe_un un_neg (pe_int)) (fun _ _ => rfl)) (by first | exact nomark _ | rfl)) (pw_or1 (pt_cmpR (kneD K hr.r.units) (pe_ix (kixL K) (pe_dget hr.hu (pe_dget hr.hu (pv 0) (pe_str) (fun _ _ => rfl)) (pe_ix (kixT K) (pv 4) (pe_int) (fun _ _ => rfl)) (fun _ _ => rfl)) (pe_ix (kixT K) (pv 4) (pe_int) (fun _ _ => rfl)) (fun _ _ => rfl)) (pe_ix (kixT K) (pv 4) (pe_int) (fun _ _ => rfl)) (by first | exact nomark _ | rfl)))))) (pss_one (ps_ret (pe_bl))) (pss_nil))))
      (pss_one (ps_ret (pe_bl)))), ?_⟩
    obtain ⟨pl, epl, ppl⟩ := id st
    obtain ⟨s0, rest, er⟩ : ∃ s0 rest, r = s0 :: rest := by
      cases r with
      | nil => exact absurd rfl wk.rp.ne
      | cons s t => exact ⟨s, t, rfl⟩
    have hs0 : s0 ∈ r := by rw [er]; exact List.mem_cons_self
    obtain ⟨p0, pl', epl0, hp0⟩ : ∃ p0 pl', pl = p0 :: pl' ∧ StepAt H p0 s0 := by
      rw [er] at ppl
      cases ppl with
      | cons h t => exact ⟨_, _, rfl, h⟩
    have at0 : atI (pl.map V.ref) 0 = some (.ref p0) := by rw [epl0]; exact atI_nat (j := 0) rfl
    refine cut_seq (fun σ' H' => σ' = [some (.ref x.m), some (.ref e), some (.ref a), none, none] ∧ H' = H) (fun nx q' => ?_) ?_
    · have vd0 := (wk.rp.ok s0 hs0).1
      cases s0 with
      | hand k v =>
        have hp : H p0 = some (.tup [.str "hand", kV k, v]) := hp0
        have dg : DGet H e (kV k) (some v) := by
          rw [← val_nodup nd (k, v) (wk.inn _ hs0)]
          exact DGet.k ee
        refine ⟨_, rfl, a, _, _, _, rfl, rfl, SqL.of epl, at0, p0, _, _, _, rfl, rfl, SqT.of hp, rfl, rfl, _, rfl, iteT ?_⟩
        refine ⟨_, rfl, _, rfl, a, _, _, _, rfl, rfl, SqL.of epl, at0, p0, _, _, _, rfl, rfl, SqT.of hp, rfl, e, _, rfl, dg, _, rfl, a, _, _, _, rfl, rfl, SqL.of epl, at0, p0, _, _, _, rfl, rfl, SqT.of hp, rfl, _, _, vd0.dp, vd0.dp, vd0.shaped, vd0.shaped, ?_⟩
        rw [eqv_self vd0.shaped]
        exact ⟨_, rfl, iteF (q' _ _ ⟨rfl, rfl⟩)⟩
      | room f o k v =>
        obtain ⟨qa, r1, hp, hq, hr1, dg, ec, hk⟩ := room_cell (K := K) y hp0 (wk.inn _ hs0)
        refine ⟨_, rfl, a, _, _, _, rfl, rfl, SqL.of epl, at0, p0, _, _, _, rfl, rfl, SqT.of hp, rfl, rfl, _, rfl, ?_⟩
        rw [decide_eq_false (fun z => by injection z with z; exact absurd z (by decide +kernel))]
        refine iteF ?_
        refine ⟨_, rfl, x.m, _, rfl, y.get5, _, rfl, a, _, _, _, rfl, rfl, SqL.of epl, at0, p0, _, _, _, rfl, rfl, SqT.of hp, rfl, x.c, _, rfl, dg, _, rfl, a, _, _, _, rfl, rfl, SqL.of epl, at0, p0, _, _, _, rfl, rfl, SqT.of hp, rfl, r1.c, _, _, _, rfl, rfl, SqL.of ec, atI_nat hk,
          _, rfl, a, _, _, _, rfl, rfl, SqL.of epl, at0, p0, _, _, _, rfl, rfl, SqT.of hp, rfl, _, _, vd0.dp, vd0.dp, vd0.shaped, vd0.shaped, ?_⟩
        rw [eqv_self vd0.shaped]
        exact ⟨_, rfl, iteF (q' _ _ ⟨rfl, rfl⟩)⟩
    rintro σ' H' ⟨rfl, rfl⟩
    refine ⟨_, rfl, _, rfl, _, rfl, a, _, rfl, SqL.of epl, fun b hb => ?_⟩
    rw [cut_one]
    have kb := (Kp.refl (S := []) (H := H')).new (o := .lst (pl.map V.ref).tail) hb
    have eb : upd H' b (.lst (pl.map V.ref).tail) b = some (.lst (pl.map V.ref).tail) := upd_same
    generalize upd H' b (.lst (pl.map V.ref).tail) = H1 at *
    refine ⟨a, b, _, _, rfl, SqL.of (kb _ _ epl (by simp)), SqL.of eb, for_it (walk_zip rfl) (fun i σ H2 => ∃ v3 v4, σ = [some (.ref x.m), some (.ref e), some (.ref a), v3, v4] ∧ Kp [] H1 H2) ⟨_, _, rfl, Kp.refl⟩ (fun i σ H2 _ ⟨_, _, _, z⟩ => ⟨SqL.of (z _ _ (kb _ _ epl (by simp)) (by simp)), SqL.of (z _ _ eb (by simp))⟩) ?_ ?_⟩
    · rintro i v σ H2 H3 hi ⟨v3, v4, rfl, k2⟩ ⟨T', x1, x2, rfl, hT, rfl, ex1, ex2⟩
      have ex1 : (pl.map V.ref)[i]? = some x1 := ex1
      have ex2 : (pl.map V.ref).tail[i]? = some x2 := ex2
      rw [List.getElem?_tail] at ex2
      rw [List.getElem?_map] at ex1 ex2
      obtain ⟨p1, hp1, rfl⟩ := Option.map_eq_some_iff.mp ex1
      obtain ⟨p2, hp2, rfl⟩ := Option.map_eq_some_iff.mp ex2
      obtain ⟨s1, hs1, at1⟩ := LiI.paired_get ppl hp1
      obtain ⟨s2, hs2, at2⟩ := LiI.paired_get ppl hp2
      have kT := (Kp.refl (S := []) (H := H2)).new (o := .tup [.ref p1, .ref p2]) hT
      have eT : upd H2 T' (.tup [.ref p1, .ref p2]) T' = some (.tup [.ref p1, .ref p2]) := upd_same
      generalize upd H2 T' (.tup [.ref p1, .ref p2]) = H3 at *
      have k3 := (kb.trans k2).trans kT
      have y3 := y.kp0 k3
      obtain ⟨f, o, k, v, rfl, ech⟩ := wk.ch i s1 s2 hs1 hs2
      have hm2 := List.mem_of_getElem? hs2
      have vd2 := ((wk.rp.ok _ hm2).1).tk k3.tkq
      obtain ⟨qa, r1, hp, hq, hr1, dg, ec, hk⟩ := room_cell (K := K) y3 (at2.tk k3.tkq) (wk.inn _ hm2)
      obtain ⟨b1, b2⟩ := wk.rp.ok s1 (List.mem_of_getElem? hs1)
      obtain ⟨q1, f1, o1, ev1, eq1, ed1, _⟩ := b1.inn b2
      have efo : (f1, o1) = (f, o) := by rw [← ech, ed1, wayOf_way]
      obtain ⟨rfl, rfl⟩ : f1 = f ∧ o1 = o := by injection efo with a1 a2; exact ⟨a1, a2⟩
      obtain ⟨xs1, hxs1, hl1⟩ := step_last (K := K) (at1.tk k3.tkq)
      refine ⟨T', _, rfl, SqT.of eT, rfl, _, _, rfl, _, _, rfl, rfl, ?_⟩
      refine ⟨_, rfl, p2, _, _, _, rfl, rfl, SqT.of hp, rfl, rfl, ?_⟩
      rw [decide_eq_true rfl]
      refine ⟨_, rfl, iteF ?_⟩
      refine ⟨_, rfl, p2, _, _, _, rfl, rfl, SqT.of hp, rfl, _, rfl, _, rfl, p1, xs1, _, _, rfl, rfl, hxs1, hl1, wayD f1 o1, wayD f1 o1, dp_way hq, by rw [ev1]; exact dp_way (k3 _ _ eq1 (by simp)), shaped_way _ _, shaped_way _ _, ?_⟩
      rw [eqv_self (shaped_way _ _)]
      refine ⟨_, rfl, iteF ?_⟩
      refine ⟨_, rfl, x.m, _, rfl, y3.get5, _, rfl, p2, _, _, _, rfl, rfl, SqT.of hp, rfl, x.c, _, rfl, dg, _, rfl, p2, _, _, _, rfl, rfl, SqT.of hp, rfl, r1.c, _, _, _, rfl, rfl, SqL.of ec, atI_nat hk, _, rfl, p2, _, _, _, rfl, rfl, SqT.of hp, rfl, _, _, vd2.dp, vd2.dp, vd2.shaped, vd2.shaped, ?_⟩
      rw [eqv_self vd2.shaped]
      exact ⟨_, rfl, iteF ⟨_, _, rfl, k2.trans kT⟩⟩
    · rintro σ H2 ⟨v3, v4, rfl, k2⟩
      exact q H2 (kb.trans k2)
end

end Lw
namespace Lw
open PySem PySem.Spec L2 FG
open PyProof.Rows hiding St
/-! ### whether both tell the same rows -/
theorem Wk.tk {H H' : Hp} {vd : V → PyData} {x : WSt} {kv : List (L2.Key × V)} {ps : List (Nat × Nat)} {r : Row} (h : Wk H vd x kv ps r) (t : TKq H H') : Wk H' vd x kv ps r :=
  ⟨⟨h.rp.ne, fun s hs => ⟨(h.rp.ok s hs).1.tk t, (h.rp.ok s hs).2⟩⟩, h.inn, h.ch, fun s hs => (h.ok s hs).tk t⟩
def rowD (vd : V → PyData) (r : Row) : PyData := .tuple [wayD (keyR vd r).1 (keyR vd r).2, .list (r.map fun s => s.data vd)]
theorem row_ok {H : Hp} {vd : V → PyData} {x : WSt} {kv : List (L2.Key × V)} {ps : List (Nat × Nat)} {r : Row} (h : Wk H vd x kv ps r) (hs : (keyR vd r).1 < 10000 ∧ (keyR vd r).2 < 10000) : okD (rowD vd r) = true ∧ (rowD vd r).bulk ≤ 16 * r.length + 4 ∧ (rowD vd r).depth ≤ 6 := by
  obtain ⟨a, b, c⟩ := all_ok (N := 15) (M := 2) (ds := r.map fun s => s.data vd) fun d hd => by
    obtain ⟨s, hs, rfl⟩ := List.mem_map.mp hd
    exact (h.ok s hs).ok
  rw [List.length_map] at b
  have w := okT_way hs.1 hs.2
  refine ⟨?_, ?_, ?_⟩
  · simp only [rowD, okD, okDs, Bool.and_true, Bool.and_eq_true]; exact ⟨w.ok, a⟩
  · have := w.b
    simp only [rowD, PyData.bulk, PyData.bulkAll] at *; omega
  · have := w.h
    simp only [rowD, PyData.depth, PyData.depthAll] at *; omega
theorem rows_bulk {vd : V → PyData} : ∀ (L : List Row) (c : Nat), (∀ r ∈ L, (rowD vd r).bulk ≤ 16 * r.length + 4) → (∀ (j : Nat) (r : Row), L[j]? = some r → r.length ≤ c + j + 1) → PyData.bulkAll (L.map (rowD vd)) ≤ L.length * (16 * c) + 6 * L.length + 8 * (L.length * (L.length + 1))
  | [], _, _, _ => by simp only [List.map_nil, PyData.bulkAll]; omega
  | r :: L, c, h, g => by
    have ih := rows_bulk L (c + 1) (fun q hq => h q (by simp [hq])) fun j q hq => by have := g (j + 1) q hq; omega
    have h1 := h r (by simp)
    have h2 := g 0 r rfl
    simp only [List.map_cons, PyData.bulkAll, List.length_cons]
    have e1 : (L.length + 1) * (16 * c) = L.length * (16 * c) + 16 * c := by rw [Nat.add_mul, Nat.one_mul]
    have e2 : L.length * (16 * (c + 1)) = L.length * (16 * c) + 16 * L.length := by rw [Nat.mul_add, Nat.mul_add]; omega
    have e3 : (L.length + 1) * (L.length + 1 + 1) = L.length * (L.length + 1) + 2 * (L.length + 1) := by
      rw [Nat.mul_add (L.length + 1) (L.length + 1) 1, Nat.add_mul L.length 1 (L.length + 1)]; omega
    rw [e1, e3]
    rw [e2] at ih
    omega
theorem dp_rows {K : PySem.W.Frag} {H : Hp} {vd : V → PyData} : ∀ {ts as : List Addr} {L : List Row}, Paired (fun (t : Addr) (q : List L2.Key × V) => ∃ k : Addr, H t = some (.tup [.ref k, q.2]) ∧ H k = some (.tup (q.1.map kV))) ts (rowsK vd L as) → as.length = L.length → Paired (fun a r => StL K H a r) as L →
    (∀ r ∈ L, ∀ s ∈ r, Vd H s.val (vd s.val)) → DpAll K H (ts.map V.ref) (L.map (rowD vd))
  | ts, [], [], h, _, _, _ => by cases h; exact .nil
  | _, [], _ :: _, _, l, _, _ => by cases l
  | _, _ :: _, [], _, l, _, _ => by cases l
  | ts, a :: as, r :: L, h, l, pr, hv => by
    have h' : Paired (fun (t : Addr) (q : List L2.Key × V) => ∃ k : Addr, H t = some (.tup [.ref k, q.2]) ∧ H k = some (.tup (q.1.map kV))) ts ((kk (keyR vd r), V.ref a) :: rowsK vd L as) := h
    cases h' with
    | @cons t _ ts' _ h1 h2 =>
      cases pr with
      | cons p1 p2 =>
        obtain ⟨k, e1, e2⟩ := h1
        obtain ⟨ps, e3, p3⟩ := p1
        refine .cons (.tup (SqT.of e1) (.cons (dp_way e2) (.cons (.lst (SqL.of e3) (StL.dp p3 fun s hs => hv r (by simp) s hs)) .nil))) (dp_rows h2 (Nat.succ.inj l) p2 fun r' hr' => hv r' (by simp [hr']))
theorem rows_shw {K : PySem.W.Frag} {H : Hp} {vd : V → PyData} {x : WSt} {kv : List (L2.Key × V)} {ps : List (Nat × Nat)} {p : Addr} {ts as : List Addr} {L : List Row} (ep : H p = some (.lst (ts.map V.ref)))
    (h : Paired (fun (t : Addr) (q : List L2.Key × V) => ∃ k : Addr, H t = some (.tup [.ref k, q.2]) ∧ H k = some (.tup (q.1.map kV))) ts (rowsK vd L as)) (la : as.length = L.length) (pr : Paired (fun a r => StL K H a r) as L) (wk : ∀ r ∈ L, Wk H vd x kv ps r)
    (hs : ∀ r ∈ L, (keyR vd r).1 < 10000 ∧ (keyR vd r).2 < 10000) (ix : ∀ (j : Nat) (r : Row), L[j]? = some r → r.length ≤ j + 1) (hl : L.length ≤ 180) : Shw K H (.ref p) (.list (L.map (rowD vd))) := by
  have hb := rows_bulk L 0 (fun r hr => (row_ok (wk r hr) (hs r hr)).2.1) fun j r hr => by have := ix j r hr; omega
  have h8 : L.length * (L.length + 1) ≤ 180 * 181 := Nat.mul_le_mul hl (by omega)
  refine shw_listN ep (dp_rows h la pr fun r hr s hs' => ((wk r hr).rp.ok s hs').1) (okDs_of fun d hd => ?_) (by simp only [Nat.mul_zero, Nat.zero_add] at hb; omega) ?_
  · obtain ⟨r, hr, rfl⟩ := List.mem_map.mp hd
    exact (row_ok (wk r hr) (hs r hr)).1
  · have : ∀ ds : List PyData, (∀ d ∈ ds, d.depth ≤ 6) → PyData.depthAll ds ≤ 6 := by
      intro ds
      induction ds with
      | nil => intro _; simp only [PyData.depthAll]; omega
      | cons d ds ih => intro h; simp only [PyData.depthAll]; have := h d (by simp); have := ih fun e he => h e (by simp [he]); omega
    refine Nat.le_trans (this _ fun d hd => ?_) (by omega)
    obtain ⟨r, hr, rfl⟩ := List.mem_map.mp hd
    exact (row_ok (wk r hr) (hs r hr)).2.2
def spWRight (K : PySem.W.Frag) : Sp := fun vs H Q _ => ∃ (s : HSt) (x : WSt) (d : Addr) (kvs : List (L2.Key × V)), vs = [.ref s.p, .ref x.m, .ref d] ∧ Scn K H s x d kvs ∧ s.rs.length ≤ 180 ∧ ∀ H', Kp [] H H' → Q (.bl true) H'

end Lw
namespace Lw
open PySem PySem.Spec L2 FG
open PyProof.Rows hiding St
section
variable {P : Program} {w : World} {K : PySem.W.Frag} {mg : Str → Option Value} {base : Heap}
theorem ok_wright (T : Tx K mg) {fd : FuncData} (F : Fun K "_law_right" "_law_right" s__law_right (He.ga K "_law_right") fd) (c__law_standing : Cal P w K mg base 1 "_law_standing" spWStanding) (c__law_kept : Cal P w K mg base 5 "_law_kept" (spWKept K)) (c_kept : Cal P w K mg base 7 "kept" (spKept K)) (c__law_walks : Cal P w K mg base 1 "_law_walks" (spWWalks K))
    (m_picture : Met P w K mg base 6 (CH K) "picture" (spPicture K)) (c__law_picture : Cal P w K mg base 2 "_law_picture" (spWPicture K)) (m_greatest : Met P w K mg base 1 (CH K) "greatest" (spGreatest K)) : FnG P w K mg base 8 (He.ga K "_law_right") fd ["_law_house", "_law_world_here", "_law_hands_here"] (spWRight K) := by
  refine FnG.of F sc__law_right (fun vs H Q E h => ?_) (fun cdv A outer sh H vs Q E hr h => ?_)
  · obtain ⟨s, x, d, kvs, rfl, _⟩ := h; rfl
  · obtain ⟨s, x, d, kvs, rfl, y, hl180, q⟩ := h
    have hw := y.hw
    have sm := hw.small (by have := y.ln; omega)
    have lx : x.rs.length ≤ 200 := by rw [hw.len]; exact y.ln
    obtain ⟨vd, evd⟩ : ∃ vd, vd = vdat x.rs := ⟨_, rfl⟩
    have vok : ∀ v, ValM x.rs v → Vd H v (vd v) := fun v hv => by rw [evd]; exact vdat_ok hw.wa.wl sm hv
    have hvx : ∀ r ∈ x.here, ∀ v ∈ r.cells, Vd H v (vd v) := fun r hr v hv => vok v (hw.vm r (x.sub.subset hr) v hv)
    have hvs : ∀ r ∈ s.here, ∀ v ∈ r.cells, Vd H v (vd v) := fun r hr v hv => by
      obtain ⟨q', hq, _, _, e3⟩ := rho_mem hw.er.symm ((here_sub s).subset hr)
      exact vok v (hw.vm q' hq v (by rw [e3]; exact hv))
    obtain ⟨dx, fs, e, ff, hf⟩ := hw.ho.ob
    refine ⟨_, pss_cons (ps_set (i := 3) sc__law_right.nd rfl (by first | exact Or.inl rfl | exact Or.inr rfl) (pe_callTy (kdictP K rfl) (by rfl) T.z_dict (by decide +kernel) (pa_cons (ksl4 K (LiI.pe_listItems rfl (pv 2) (by rfl) T.z_list (by decide +kernel)) (po_none) (po_some (pe_int)) (po_some (pe_un un_neg (pe_int)))) (pa_nil))))
      (pss_cons (ps_for (passes_of rfl) rfl (kiL K (pe_slice (kslL K) (gc c__law_standing (hr.mono (by decide)) takes0 (pa_cons (pv 1) (pa_nil))) (po_some (pe_int)) (po_none))) (pg_name (i := 4) sc__law_right.nd rfl (by first | exact Or.inl rfl | exact Or.inr rfl))
        (pss_one (ps_for (passes_of rfl) rfl (kiL K (pe_lst (pa_cons (pv 2) (pa_cons (pv 3) (pa_cons (pv 2) (pa_nil)))))) (pg_name (i := 5) sc__law_right.nd rfl (by first | exact Or.inl rfl | exact Or.inr rfl))
        (pss_cons (ps_set (i := 6) sc__law_right.nd rfl (by first | exact Or.inl rfl | exact Or.inr rfl) (gc c__law_kept (hr.mono (by decide)) takes0 (pa_cons (pv 1) (pa_cons (pv 4) (pa_cons (pv 5) (pa_nil))))))
      (pss_cons (ps_set (i := 7) sc__law_right.nd rfl (by first | exact Or.inl rfl | exact Or.inr rfl) (pe_callTy call_dictD (by rfl) T.z_dict (by decide +kernel) (pa_cons (pv 5) (pa_nil))))
      (pss_cons (ps_set (i := 8) sc__law_right.nd rfl (by first | exact Or.inl rfl | exact Or.inr rfl) (gc c_kept (hr.mono (by decide)) takes0 (pa_cons (pv 0) (pa_cons (pv 4) (pa_cons (pv 7) (pa_nil))))))
      (pss_cons (ps_if (PW.pt (pw_or (pt_not (pt_val (pe_callB (kisi K) (by rfl) T.z_isinstance (by decide +kernel) (pa_cons (pv 8) (pa_cons (pe_bltn (v := .ty "dict") (by rfl) T.z_dict (by decide +kernel) rfl) (pa_nil)))))) (pw_or1 (pt_cmpR op_ne (krepr K hr T.z_repr (pe_listItemsT rfl (pv 8) (by rfl) T.z_list (by decide +kernel))) (krepr K hr T.z_repr (pe_listItemsT rfl (pv 6) (by rfl) T.z_list (by decide +kernel))) (by first | exact nomark _ | rfl))))) (pss_one (ps_ret (pe_bl))) (pss_nil))
      (pss_cons (ps_if (pt_cmpR (kneD K hr.r.units) (LiI.pe_listItems rfl (pv 7) (by rfl) T.z_list (by decide +kernel)) (LiI.pe_listItems rfl (pv 5) (by rfl) T.z_list (by decide +kernel)) (by first | exact nomark _ | rfl)) (pss_one (ps_ret (pe_bl))) (pss_nil))
      (pss_cons (ps_lock (ps_for (passes_of rfl) rfl (pi_keys (pv 6)) (pg_name (i := 9) sc__law_right.nd rfl (by first | exact Or.inl rfl | exact Or.inr rfl))
        (pss_cons (ps_if (PW.pt (pw_or (pt_not (pt_val (gc c__law_walks (hr.mono (by decide)) takes0 (pa_cons (pv 1) (pa_cons (pv 5) (pa_cons (pe_dget hr.hu (pv 8) (pv 9) (fun _ _ => rfl)) (pa_nil))))))) (pw_or1 (pt_cmpR (kneD K hr.r.units) (pe_ix (kixT K) (pe_ix (kixL K) (pe_dget hr.hu (pv 8) (pv 9) (fun _ _ => rfl)) (pe_un un_neg (pe_int)) (fun _ _ => rfl)) (pe_un un_neg (pe_int)) (fun _ _ => rfl)) (pv 9) (by first | exact nomark _ | rfl))))) (pss_one (ps_ret (pe_bl))) (pss_nil))
      (pss_one (ps_expr (kbm K PySem.F.plainAttrs_list PySem.F.slot_list_append PySem.F.type_list_append mt_append (pe_dget hr.hu (pv 8) (pv 9) (fun _ _ => rfl)) (pa_cons (pe_non) (pa_nil))))))))
      (pss_one (ps_expr (kbm0 K PySem.F.plainAttrs_dict PySem.F.slot_dict_clear PySem.F.type_dict_clear mtd_clearT (pv 8)))))))))))))
      (pss_one (ps_ret (pe_and (pe_cmpR (keqD K hr.r.units) (gm0 m_picture (hr.mono (by decide)) takes0 (pv 0)) (gc c__law_picture (hr.mono (by decide)) takes0 (pa_cons (pv 1) (pa_nil))) (by first | exact nomark _ | rfl)) (pe_one (pe_cmpR op_eq (gm0 m_greatest (hr.mono (by decide)) takes0 (pv 0)) (pe_dget hr.hu (pv 1) (pe_str) (fun _ _ => rfl)) (by first | exact nomark _ | rfl))))))), ?_⟩
    refine ⟨_, rfl, d, kvs, rfl, y.ed, fun H1 p1 ts1 k1' hp1 hts1 np1 e1 pr1 => ?_⟩
    have k1 : Kp [] H H1 := fun b o eb _ => k1' b o eb
    refine ⟨_, rfl, _, rfl, _, rfl, p1, _, rfl, SqL.of e1, by decide, fun p2 ys hp2 hys lys => ?_⟩
    have k2 : Kp [] H1 (upd H1 p2 (.lst ys)) := Kp.refl.new hp2
    have e2 : upd H1 p2 (.lst ys) p2 = some (.lst ys) := upd_same
    -- the pairs that were picked
    have pick : ∃ (ps : List Addr) (kv : List (L2.Key × V)), ys = ps.map V.ref ∧ Paired (fun (t : Addr) (q : L2.Key × V) => H1 t = some (.tup [kV q.1, q.2])) ps kv ∧ kv.length ≤ kvs.length ∧ ∀ p ∈ kv, p ∈ kvs := by
      have all : ∀ zs : List V, (∀ z ∈ zs, z ∈ ts1.map V.ref) → ∃ (ps : List Addr) (kv : List (L2.Key × V)), zs = ps.map V.ref ∧ Paired (fun (t : Addr) (q : L2.Key × V) => H1 t = some (.tup [kV q.1, q.2])) ps kv ∧ kv.length = zs.length ∧ ∀ p ∈ kv, p ∈ kvs := by
        intro zs
        induction zs with
        | nil => intro _; exact ⟨[], [], rfl, .nil, rfl, fun p hp => by cases hp⟩
        | cons z zs ih =>
          intro h
          obtain ⟨ps, kv, e, pr, l, m⟩ := ih fun u hu => h u (by simp [hu])
          obtain ⟨t, ht, rfl⟩ := List.mem_map.mp (h z (by simp))
          obtain ⟨j, u, hj, hu, hf⟩ := LiI.paired_ix pr1 ht
          refine ⟨t :: ps, u :: kv, by rw [e]; rfl, .cons hf pr, by rw [List.length_cons, List.length_cons, l], fun p hp => ?_⟩
          rcases List.mem_cons.mp hp with z | z
          · rw [z]; exact List.mem_of_getElem? hu
          · exact m p z
      obtain ⟨ps, kv, e, pr, l, m⟩ := all ys fun z hz => by
        obtain ⟨i, _, hi⟩ := hys z hz
        exact List.mem_of_getElem? hi
      have lts : (ts1.map V.ref).length = kvs.length := by rw [List.length_map]; exact Paired.length pr1
      exact ⟨ps, kv, e, pr, by omega, m⟩
    obtain ⟨ps2, kv2, rfl, pr2, lk2, mk2⟩ := pick
    have nd := y.hd
    have ho2 : HdP x.rs (mergeK [] kv2) := merge_ok (fun p hp => by
      have hp2 := mk2 p (by simpa using hp)
      exact ⟨nd.nm p hp2, nd.vm p hp2⟩) (by simp) (by have := nd.ln; simp; omega)
    refine ⟨p2, ps2, kv2, rfl, SqL.of e2, Paired.mapP pr2 fun t u ht => SqT.of (k2 _ _ ht (by simp)), fun o2 ho => ?_⟩
    have k3 := (k1.trans k2).new (o := .dK (mergeK [] kv2)) ho
    obtain ⟨H3, eH3⟩ : ∃ H3, H3 = upd (upd H1 p2 (.lst (ps2.map V.ref))) o2 (.dK (mergeK [] kv2)) := ⟨_, rfl⟩
    have nf2 := new_nf y (k1.trans k2) ho
    have d2 : Dct H3 s x o2 (mergeK [] kv2) := ⟨by rw [eH3]; exact upd_same, ho2, nf2.1, nf2.2⟩
    rw [← eH3] at k3
    have d1 : Dct H3 s x d kvs := ⟨k3 _ _ y.ed (by simp), y.hd, y.n1, y.n2⟩
    walk_at "nx"
    rw [← eH3]
    clear eH3 ho
    refine ⟨_, rfl, x, rfl, hw.wa.kp0 k3, fun l H4 hl4 k4 el4 => ⟨_, rfl, l, _, rfl, SqL.of el4, fun sl hsl => ?_⟩⟩
    rw [cut_one]
    have k5 := (k3.trans k4).new (o := .lst ((stand x.ts).map nint).tail) hsl
    have e5 : upd H4 sl (.lst ((stand x.ts).map nint).tail) sl = some (.lst ((stand x.ts).map nint).tail) := upd_same
    have dd1 := d1.kp (k4.new (o := .lst ((stand x.ts).map nint).tail) hsl)
    have dd2 := d2.kp (k4.new (o := .lst ((stand x.ts).map nint).tail) hsl)
    generalize upd H4 sl (.lst ((stand x.ts).map nint).tail) = H5 at *
    rw [← List.map_tail] at e5
    refine ⟨sl, rfl, ⟨_, SqL.of e5⟩, for_list (K := K) (a := sl) (xs := ((stand x.ts).tail).map nint) (fun i σ H' => ∃ v4 v5 v6 v7 v8 v9, σ = [some (.ref s.p), some (.ref x.m), some (.ref d), some (.ref o2), v4, v5, v6, v7, v8, v9] ∧ Kp [] H5 H') ⟨_, _, _, _, _, _, rfl, Kp.refl⟩ (fun i σ H' _ ⟨_, _, _, _, _, _, _, z⟩ => SqL.of (z _ _ e5 (by simp))) ?_ ?_⟩
    · rintro i v σ H6 hv ⟨v4, v5, v6, v7, v8, v9, rfl, k6⟩
      rw [List.getElem?_map] at hv
      obtain ⟨f, hf2, rfl⟩ := Option.map_eq_some_iff.mp hv
      obtain ⟨f0, hup⟩ := tail_pos (by rw [hw.et]; exact hw.gr) (List.mem_of_getElem? hf2)
      have hups : s.ts[f]? = some none := by rw [← hw.et]; exact hup
      refine ⟨_, rfl, _, rfl, _, rfl, (by show 3 ≤ sizeLine; decide), fun ll hll => ?_⟩
      have k67 : Kp [] H6 (upd H6 ll (.lst [.ref d, .ref o2, .ref d])) := Kp.refl.new hll
      have ell : upd H6 ll (.lst [.ref d, .ref o2, .ref d]) ll = some (.lst [.ref d, .ref o2, .ref d]) := upd_same
      generalize upd H6 ll (.lst [.ref d, .ref o2, .ref d]) = H7 at *
      have k07 := (k5.trans k6).trans k67
      have els : ∀ v ∈ [V.ref d, .ref o2, .ref d], ∃ e kv, v = .ref e ∧ Dct H7 s x e kv := by
        intro v hv
        simp only [List.mem_cons, List.not_mem_nil, or_false] at hv
        rcases hv with rfl | rfl | rfl
        · exact ⟨d, kvs, rfl, dd1.kp (k6.trans k67)⟩
        · exact ⟨o2, _, rfl, dd2.kp (k6.trans k67)⟩
        · exact ⟨d, kvs, rfl, dd1.kp (k6.trans k67)⟩
      refine ⟨ll, rfl, ⟨_, SqL.of ell⟩, for_list (K := K) (a := ll) (xs := [V.ref d, .ref o2, .ref d]) (fun j σ H' => ∃ v5 v6 v7 v8 v9, σ = [some (.ref s.p), some (.ref x.m), some (.ref d), some (.ref o2), some (nint f), v5, v6, v7, v8, v9] ∧ Kp [] H7 H') ⟨v5, v6, v7, v8, v9, rfl, Kp.refl⟩ (fun i σ H' _ ⟨_, _, _, _, _, _, z⟩ => SqL.of (z _ _ ell (by simp))) ?_ ?_⟩
      · rintro j v σ H8 hv ⟨w5, w6, w7, w8, w9, rfl, k8⟩
        obtain ⟨e, kv, rfl, dc⟩ := els v (List.mem_of_getElem? hv)
        have k08 := k07.trans k8
        have dc8 := dc.kp k8
        have hw8 := hw.kp0 k08
        have vok8 : ∀ v, ValM x.rs v → Vd H8 v (vd v) := fun v hv => (vok v hv).tk k08.tkq
        have hkv8 : ∀ p ∈ kv, Vd H8 p.2 (vd p.2) := fun p hp => vok8 _ (dc.hd.vm p hp)
        have h6x : ∀ r ∈ x.rs, r.cells.length ≤ 6 := fun r hr => (hw.sz hr).2
        refine ⟨_, rfl, _, rfl, _, rfl, x, f, e, kv, vd, rfl, hw8.wa, by omega, h6x, dc8.ed, by have := dc.hd.ln; omega, dc.hd.nd, dc.n2, hkv8, fun r hr v hv => (hvx r hr v hv).tk k08.tkq, fun e1 H9 as1 i1 he1 k9 len1 fn1 => ?_⟩
        refine ⟨_, rfl, e, kv, rfl, .inl (k9 _ _ dc8.ed (by simp)), fun hd hhd => ?_⟩
        have k10 := k9.new (o := .dK kv) hhd
        have ehd : upd H9 hd (.dK kv) hd = some (.dK kv) := upd_same
        have fn10 := fn1.kp (Kp.refl.new (o := .dK kv) hhd)
        have nfh := new_nf y (k08.trans k9) hhd
        walk_at "nx"
        generalize upd H9 hd (.dK kv) = H10 at *
        have k010 := k08.trans k10
        have hk10 : HOk H10 s hd kv := ⟨ehd, nfh.1, dc.hd.nm, fun p hp => (hw.vok (dc.hd.vm p hp)).tk k010.tkq, dc.hd.ln⟩
        refine ⟨_, rfl, _, rfl, _, rfl, s, f, hd, kv, vd, rfl, hw.ho.kp0 k010, by have := y.ln; omega, hups, f0, hk10, fun p hp => (hkv8 p hp).tk k10.tkq, fun r hr v hv => (hvs r hr v hv).tk k010.tkq, fun e2 ln H11 as2 i2 he2 k11 len2 fn2 => ?_⟩
        rw [← hw.et, ← hw.eh, ← hw.er] at len2 fn2
        have k011 := k010.trans k11
        have eL : rowsOf vd x.hs x.ts (x.rs.map rho) f kv i2 = rowsOf vd x.hs x.ts (x.rs.map rho) f kv i1 := SQ_same len2 len1
        rw [eL] at fn2
        have gd : Gd (keyR vd) List.length (Wk H vd x kv (insP x.hs x.ts (x.rs.map rho) f)) (rowsOf vd x.hs x.ts (x.rs.map rho) f kv i1) := rows_wk hw.wa.kn sm h6x dc.hd.nm (fun p hp => vok _ (dc.hd.vm p hp)) hvx i1
        have fn11 := fn10.kp k11
        have ipl : (insP x.hs x.ts (x.rs.map rho) f).length ≤ 180 := by
          rw [← inW_pk, List.length_map]
          refine Nat.le_trans (List.length_filter_le _ _) (Nat.le_trans (allW_len x) ?_)
          rw [hw.len]; exact hl180
        obtain ⟨L, eLL⟩ : ∃ L, L = rowsOf vd x.hs x.ts (x.rs.map rho) f kv i1 := ⟨_, rfl⟩
        rw [← eLL] at fn11 fn2 gd
        have keys : ∀ r ∈ L, (keyR vd r).1 < 10000 ∧ (keyR vd r).2 < 10000 := fun r hr => by
          obtain ⟨_, f', o', _, _, ek, hin⟩ := (gd.all r hr).rp.to
          obtain ⟨r2, hr2, _, _, e2⟩ := mem_insP.mp hin
          rw [ek, e2]; exact sm r2 hr2
        have lenL : L.length ≤ 180 := by
          have := nd_le (m := insP x.hs x.ts (x.rs.map rho) f) gd.nd fun k hk => by
            obtain ⟨r, hr, rfl⟩ := List.mem_map.mp hk
            obtain ⟨_, _, _, _, _, e1, e2⟩ := (gd.all r hr).rp.to
            rw [e1]; exact e2
          rw [List.length_map] at this; omega
        have shwL : ∀ {H' : Hp} {p : Addr} {ts as : List Addr}, Kp [] H H' → H' p = some (.lst (ts.map V.ref)) → Paired (fun (t : Addr) (q : List L2.Key × V) => ∃ k : Addr, H' t = some (.tup [.ref k, q.2]) ∧ H' k = some (.tup (q.1.map kV))) ts (rowsK vd L as) → as.length = L.length → Paired (fun a r => StL K H' a r) as L → Shw K H' (.ref p) (.list (L.map (rowD vd))) := fun k ep h la pr =>
          rows_shw ep h la pr (fun r hr => (gd.all r hr).tk k.tkq) keys gd.ix lenL
        have ehd11 := k11 _ _ ehd (by simp)
        have ee11 : H11 e = some (.dK kv) := (k10.trans k11) _ _ dc8.ed (by simp)
        walk_at "nx"
        refine cut_if (fun bb H12 => bb = false ∧ Kp [] H11 H12) (fun Q' q' => ?_) ?_
        · refine ⟨_, rfl, _, _, _, _, true, rfl, .ty _, .base (.dT fn2.ed), kit_ty rfl, _, rfl, iteF ?_⟩
          refine ⟨_, rfl, e2, _, rfl, fn2.ed, fun H12 p t1 k12' hp ht1 np1 ep1 pr1 => ?_⟩
          have k12 : Kp [] H11 H12 := fun b o eb _ => k12' b o eb
          have s12 := shwL (k011.trans k12) ep1 (Paired.mapP pr1 fun t q ⟨kq, a1, a2⟩ => ⟨kq, a1, k12 _ _ a2 (by simp)⟩) fn2.la (rows_kpS fn2.rw k12 (fun _ _ z => by cases z) k12.tkq)
          refine ⟨_, _, rfl, s12, _, rfl, e1, _, rfl, k12 _ _ fn11.ed (by simp), fun H13 p' t2 k13' hp' ht2 np2 ep2 pr2 => ?_⟩
          have k13 : Kp [] H12 H13 := fun b o eb _ => k13' b o eb
          have fn13 := (fn11.kp k12).kp k13
          have s13 := shwL ((k011.trans k12).trans k13) ep2 (Paired.mapP pr2 fun t q ⟨kq, a1, a2⟩ => ⟨kq, a1, k13 _ _ a2 (by simp)⟩) fn13.la fn13.rw
          refine ⟨_, _, rfl, s13, rfl, ?_⟩
          rw [decide_eq_true rfl]
          exact ⟨_, rfl, q' _ _ ⟨rfl, k12.trans k13⟩⟩
        rintro bb H12 ⟨rfl, k12⟩
        refine iteF ?_
        walk_at "nx"
        refine cut_if (fun bb H13 => bb = false ∧ Kp [] H12 H13) (fun Q' q' => ?_) ?_
        · refine ⟨_, rfl, hd, kv, rfl, k12 _ _ ehd11 (by simp), fun H13 p t1 k13' hp ht1 np1 ep1 pr1 => ?_⟩
          have k13 : Kp [] H12 H13 := fun b o eb _ => k13' b o eb
          refine ⟨_, rfl, e, kv, rfl, (k12.trans k13) _ _ ee11 (by simp), fun H14 p' t2 k14' hp' ht2 np2 ep2 pr2 => ?_⟩
          have k14 : Kp [] H13 H14 := fun b o eb _ => k14' b o eb
          have hv14 : ∀ p ∈ kv, Vd H14 p.2 (vd p.2) := fun p hp => (vok _ (dc.hd.vm p hp)).tk (((k011.trans k12).trans k13).trans k14).tkq
          have sh14 := items_sh dc.hd.nm hv14
          refine ⟨.list (itemsD vd kv), .list (itemsD vd kv), .lst (SqL.of (k14 _ _ ep1 (by simp))) (dp_items (Paired.mapP pr1 fun t u ht => k14 _ _ ht (by simp)) hv14), .lst (SqL.of ep2) (dp_items pr2 hv14), sh14, sh14, ?_⟩
          rw [eqv_self sh14]
          exact ⟨_, rfl, q' _ _ ⟨rfl, k13.trans k14⟩⟩
        rintro bb H13 ⟨rfl, k13⟩
        refine iteF ?_
        walk_at "nx"
        have fnA := (fn11.kp k12).kp k13
        have fnB := (fn2.kp k12).kp k13
        have k013 := (k011.trans k12).trans k13
        have ee13 := (k12.trans k13) _ _ ee11 (by simp)
        have e1_10 : ∃ o, H10 e1 = some o := ⟨_, fn10.ed⟩
        have as2n : ∀ c ∈ as2, H10 c = none := fn2.fr
        have e21 : e2 ≠ e1 := fun z => by rw [z, fn10.ed] at he2; cases he2
        have nfe1 := new_nf y k08 he1
        have ne1 : ∀ {c o}, H8 c = some o → c ≠ e1 := fun ec => ne_of_none ec he1
        have ne2 : ∀ {c o}, H10 c = some o → c ≠ e2 := fun ec => ne_of_none ec he2
        have nas : ∀ {c o}, H10 c = some o → c ∉ as2 := fun ec hc => by rw [as2n _ hc] at ec; cases ec
        refine cut_seq (fun σ' H' => (∃ v9, σ' = [some (.ref s.p), some (.ref x.m), some (.ref d), some (.ref o2), some (nint f), some (.ref e), some (.ref e1), some (.ref hd), some (.ref e2), v9]) ∧ Kp as2 H13 H' ∧ H' e2 = some (.dT (rowsK vd L as2))) (fun nx q' => ?_) ?_
        · refine ⟨e1, _, fnA.ed, trivial, fun od => ?_⟩
          obtain ⟨H14, eH14⟩ : ∃ H14, H14 = upd H13 e1 (.frz od (.dT (rowsK vd L as1))) := ⟨_, rfl⟩
          have f1 : H14 e1 = some (.frz od (.dT (rowsK vd L as1))) := by rw [eH14]; exact upd_same
          have kd : Kp [e1] H13 H14 := eH14 ▸ kp_upd
          have t1 : TKq H13 H14 := eH14 ▸ tk_frz fnA.ed fun _ z => by cases z
          walk_at "nx"
          rw [← eH14]
          have asE1 : e1 ∉ as2 := nas fn10.ed
          have pr14 : Paired (fun a r => StL K H14 a r) as2 L := rows_kpS fnB.rw kd (fun c hc z => by rw [List.mem_singleton] at z; exact asE1 (z ▸ hc)) t1
          have e2_14 : H14 e2 = some (.dT (rowsK vd L as2)) := kd _ _ fnB.ed (by simpa using e21)
          have old : ∀ {H' : Hp} {c : Addr} {o : HO}, Kp as2 H14 H' → H8 c = some o → H' c = some o := fun {H' c o} k ec => k c o (kd c o (((k10.trans k11).trans (k12.trans k13)) c o ec (by simp)) (by simpa using ne1 ec)) (nas (k10 c o ec (by simp)))
          have asL : ∀ c ∈ as2, ∃ xs, H14 c = some (.lst xs) := fun c hc => by obtain ⟨ps, e⟩ := rows_in pr14 c hc; exact ⟨_, e⟩
          have tk14 : ∀ {H' : Hp}, Kp as2 H14 H' → TKq H14 H' := fun k c xs ec => k c _ ec fun hc => by obtain ⟨ys, e⟩ := asL c hc; rw [e] at ec; cases ec
          have t0 : ∀ {H' : Hp}, Kp as2 H14 H' → TKq H H' := fun k => (k013.tkq.trans t1).trans (tk14 k)
          have eR1 : ∀ {H' : Hp}, Kp as2 H14 H' → H' e1 = some (.frz od (.dT (rowsK vd L as1))) := fun k => k _ _ f1 asE1
          have eR2 : ∀ {H' : Hp}, Kp as2 H14 H' → H' e2 = some (.dT (rowsK vd L as2)) := fun k => k _ _ e2_14 fnB.n1
          have wa14 : ∀ {H' : Hp}, Kp as2 H14 H' → WAt H' x := fun k => by
            have w1 := (hw.wa.kp0 k013).kp kd (fun c hc => by rw [List.mem_singleton] at hc; rw [hc]; exact nfe1.2) (fun c hc xs e => by rw [List.mem_singleton] at hc; rw [hc, fnA.ed] at e; cases e)
            refine w1.kp k (fun c hc z => ?_) (fun c hc xs e => by obtain ⟨ys, e'⟩ := asL c hc; rw [e'] at e; cases e)
            obtain ⟨o, eo, _⟩ := hw.wa.std c z
            exact nas (k010 c o eo (by simp)) hc
          have lr1 : (rowsK vd L as1).length = L.length := rowsK_len fnA.la
          refine ⟨_, rfl, e1, od, rfl, .inr ⟨_, f1, for_it walk_keysT (fun i σ H' => (∃ v9, σ = [some (.ref s.p), some (.ref x.m), some (.ref d), some (.ref o2), some (nint f), some (.ref e), some (.ref e1), some (.ref hd), some (.ref e2), v9]) ∧ Kp as2 H14 H' ∧ Paired (fun a r => StL K H' a r) (as2.drop i) (L.drop i))
            ⟨⟨_, rfl⟩, Kp.refl, pr14⟩ (fun i σ H' _ z => eR1 z.2.1) ?_ ?_⟩⟩
          · rintro i v σ H15 H16 hi ⟨⟨v9, rfl⟩, k15, pr15⟩ ⟨rfl, kx, vx, qx, hkx, rfl, hqx⟩
            have hiL : i < L.length := by rw [← lr1]; exact hi
            have hr : L[i]? = some L[i] := List.getElem?_eq_getElem hiL
            generalize L[i] = r at hr
            have ha2l : i < as2.length := by rw [fnB.la]; exact hiL
            have ha : as2[i]? = some as2[i] := List.getElem?_eq_getElem ha2l
            have edrop : as2.drop i = as2[i] :: as2.drop (i + 1) := List.drop_eq_getElem_cons ha2l
            have ham := List.getElem_mem ha2l
            have hnd := fn2.nd
            have ndi : as2[i] ∉ as2.drop (i + 1) := by
              have h2 : (as2.drop i).Nodup := (List.drop_sublist _ _).nodup hnd
              rw [edrop] at h2; exact (List.nodup_cons.mp h2).1
            rw [edrop] at pr15
            generalize as2[i] = a at *
            obtain ⟨a1, ha1⟩ : ∃ a1, as1[i]? = some a1 := ⟨_, List.getElem?_eq_getElem (by rw [fnA.la]; exact hiL)⟩
            have eLd : L.drop i = r :: L.drop (i + 1) := by
              rw [List.drop_eq_getElem_cons hiL]
              have := (List.getElem?_eq_some_iff.mp hr).2
              rw [this]
            rw [eLd] at pr15
            cases pr15 with
            | cons st15 rest15 =>
            obtain ⟨rfl, rfl⟩ : kk (keyR vd r) = kx ∧ V.ref a1 = vx := by
              rw [rowsK_get hr ha1] at hkx
              cases hkx; exact ⟨rfl, rfl⟩
            have wk := gd.all r (List.mem_of_getElem? hr)
            have hq' : H16 qx = some (.tup [.int ((keyR vd r).1 : Int), .int ((keyR vd r).2 : Int)]) := hqx
            have dgA : ∀ {H' : Hp}, Kp [] H16 H' → DGet H' e2 (.ref qx) (some (.ref a)) := fun {H'} k => by
              rw [← rowsK_some fnB.la gd.nd hr ha]
              exact DGet.t (k := kk (keyR vd r)) (k _ _ (eR2 k15) (by simp)) (k _ _ hqx (by simp))
            refine ⟨_, rfl, _, rfl, _, rfl, _, rfl, e2, _, rfl, dgA Kp.refl, x, e, a, kv, vd, _, r, rfl, wa14 k15, old k15 dc8.ed, dc.hd.nd, st15, wk.tk (t0 k15), fun H17 k17 => ?_⟩
            refine ⟨_, rfl, iteF ?_⟩
            have st17 := st15.kp k17
            obtain ⟨xs, p, hxs, hpl, hat⟩ := row_last st17 wk.rp.ne
            obtain ⟨ys, hys, hyl⟩ := step_last (K := K) hat
            obtain ⟨q', f', o', ev, eq, ek, hin⟩ := wk.rp.to
            have eq17 := k17 _ _ ((t0 k15) _ _ eq) (by simp)
            have hq17 := k17 _ _ hq' (by simp)
            rw [ek] at hq17
            refine ⟨_, rfl, _, rfl, e2, _, rfl, dgA k17, _, rfl, a, xs, _, _, rfl, rfl, hxs, hpl, _, rfl, p, ys, _, _, rfl, rfl, hys, hyl, _, rfl, wayD f' o', wayD f' o', by rw [ev]; exact dp_way eq17, dp_way hq17, shaped_way _ _, shaped_way _ _, ?_⟩
            rw [eqv_self (shaped_way _ _)]
            refine ⟨_, rfl, iteF ?_⟩
            obtain ⟨psr, epr, ppr⟩ := id st17
            have lpr : (psr.map V.ref).length = r.length := by rw [List.length_map]; exact Paired.length ppr
            have rl := gd.ix i r hr
            have big : (200000 : Nat) < sizeLine := by decide
            refine ⟨_, rfl, _, rfl, e2, _, rfl, dgA k17, .inl ⟨rfl, _, SqL.of epr⟩, a, _, _, rfl, rfl, epr, (by rw [lpr]; omega), ?_⟩
            have kf : Kp [a] H17 (upd H17 a (.lst (psr.map V.ref ++ [.non]))) := kp_upd
            have tf : TKq H17 (upd H17 a (.lst (psr.map V.ref ++ [.non]))) := tkq_upd epr
            refine ⟨⟨_, rfl⟩, (k15.trans (k17.mono (by simp))).trans (kf.mono fun c hc => by rw [List.mem_singleton] at hc; rw [hc]; exact ham), ?_⟩
            exact rows_kpS (rows_kpS rest15 k17 (fun _ _ z => by cases z) k17.tkq) kf (fun c hc z => by rw [List.mem_singleton] at z; exact ndi (z ▸ hc)) tf
          · rintro σ H15 ⟨⟨v9, rfl⟩, k15, _⟩
            refine ⟨eR1 k15, q' _ _ ⟨⟨_, rfl⟩, fun c o ec hc => ?_, (upd_ne e21).trans (eR2 k15)⟩⟩
            by_cases h : c = e1
            · rw [h, upd_same]; rw [h, fnA.ed] at ec; exact ec
            · exact (upd_ne h).trans (k15 c o (kd c o ec (by simpa using h)) hc)
        · rintro σ' H14 ⟨⟨u9, rfl⟩, k14, ed14⟩
          refine ⟨_, rfl, .inr (.inr (.inl ⟨rfl, .inr ⟨_, ed14⟩⟩)), e2, _, rfl, rfl, ed14, ?_⟩
          refine ⟨_, _, _, _, _, rfl, fun b o eb _ => ?_⟩
          have eb10 : H10 b = some o := (k8.trans k10) b o eb (by simp)
          exact (upd_ne (ne2 eb10)).trans (k14 b o ((k11.trans (k12.trans k13)) b o eb10 (by simp)) (nas eb10))
      · rintro σ H8 ⟨w5, w6, w7, w8, w9, rfl, k8⟩
        exact ⟨_, _, _, _, _, _, rfl, (k6.trans k67).trans k8⟩
    · rintro σ H6 ⟨v4, v5, v6, v7, v8, v9, rfl, k6⟩
      have k06 := k5.trans k6
      have hw6 := hw.kp0 k06
      have e6 := k06 _ _ e (by simp)
      refine ⟨_, rfl, s.p, dx, fs, rfl, e6, ff.no _ (by decide +kernel), s, fun vs => vs.map vd, rfl, hw6.ho, by have := y.ln; omega, fun r hr H' t => cells_dp fun v hv => ((hvs r hr v hv).tk k06.tkq).tk t, fun pv H7 k7 dpv => ?_⟩
      refine ⟨_, rfl, x, fun vs => vs.map vd, rfl, hw6.wa.kp0 k7, by omega, fun r hr H' t => cells_dp fun v hv => ((hvx r hr v hv).tk (k06.trans k7).tkq).tk t, fun qv H8 k8 dqv => ?_⟩
      have psh : SeqAt.shaped (picD s fun vs => vs.map vd) = true := pic_sh (H := H) fun r hr dd hd => by
        obtain ⟨v, hv, rfl⟩ := List.mem_map.mp hd
        exact (hvs r hr v hv).lay
      refine ⟨_, _, dpv H8 k8.tkq, dqv H8 (fun _ _ e => e), psh, by rw [hw.pic]; exact psh, ?_⟩
      rw [hw.pic, eqv_self psh]
      have k08 := (k06.trans k7).trans k8
      have hw8 := hw.kp0 k08
      refine ⟨_, rfl, iteT ?_⟩
      refine ⟨_, rfl, s.p, dx, fs, rfl, k08 _ _ e (by simp), ff.no _ (by decide +kernel), s, rfl, hw8.ho, _, rfl, x.m, _, rfl, hw8.wa.get7, rfl, ?_⟩
      rw [hw.tp, decide_eq_true rfl]
      exact q _ k08
end

end Lw
namespace Lw
open PySem PySem.Spec L2 FG
open PyProof.Rows hiding St
/-! ### the law -/
def spLaw (K : PySem.W.Frag) : Sp := fun vs H Q _ => ∃ (a : Addr) (ns : List Int), vs = [.ref a] ∧ ns.length ≤ 63 ∧ Scr K H a ns ∧ ∀ H', Q (.bl true) H'
/-- a scene that stands beside -/
def Bes (K : PySem.W.Frag) (H : Hp) (v : V) : Prop := v = .non ∨ ∃ p s x d kvs, v = .ref p ∧ H p = some (.tup [.ref s.p, .ref x.m, .ref d]) ∧ Scn K H s x d kvs ∧ s.rs.length ≤ 180
theorem Bes.kp {K : PySem.W.Frag} {H H' : Hp} {S : List Addr} {v : V} (y : Bes K H v) (k : Kp S H H') (h : ∀ a ∈ S, H a = none) : Bes K H' v := by
  rcases y with e | ⟨p, s, x, d, kvs, e, ep, sc, l⟩
  · exact .inl e
  · refine .inr ⟨p, s, x, d, kvs, e, k _ _ ep (fun z => by rw [h p z] at ep; cases ep), sc.kp k (fun a ha z => ?_) (fun a ha xs e => by rw [h a ha] at e; cases e), l⟩
    obtain ⟨o, eo, _⟩ := sc.std a z
    rw [h a ha] at eo; cases eo
section
variable {P : Program} {w : World} {K : PySem.W.Frag} {mg : Str → Option Value} {base : Heap}
theorem ok_law (T : Tx K mg) {fd : FuncData} (F : Fun K "law" "law" s_law (He.ga K "law") fd) (c__law_cell : Cal P w K mg base 1 "_law_cell" (spCell K)) (c__law_box : Cal P w K mg base 1 "_law_box" spBox) (c__law_scene : Cal P w K mg base 7 "_law_scene" (spWScene K)) (c__law_chained : Cal P w K mg base 6 "_law_chained" (spWChained K)) (c__law_deed : Cal P w K mg base 6 "_law_deed" (spWDeed K)) (c__law_right : Cal P w K mg base 8 "_law_right" (spWRight K)) :
    FnG P w K mg base 9 (He.ga K "law") fd ["_law_script"] (spLaw K) := by
  refine FnG.of F sc_law (fun vs H Q E h => ?_) (fun cdv A outer s H vs Q E hr h => ?_)
  · obtain ⟨a, ns, rfl, _⟩ := h; rfl
  · obtain ⟨a, ns, rfl, hlen, scr, q⟩ := h
    refine ⟨_, pss_cons (ps_set (i := 1) sc_law.nd rfl (by first | exact Or.inl rfl | exact Or.inr rfl) (pe_non))
      (pss_cons (ps_for (passes_of rfl) rfl (pi_range1 rfl T.z_range (pa_cons (pe_callB (call_max2 rfl) (by rfl) T.z_max (by decide +kernel) (pa_cons (pe_int) (pa_cons (pe_callB (call_min2 rfl) (by rfl) T.z_min (by decide +kernel) (pa_cons (pe_int) (pa_cons (pe_callB (klen K) (by rfl) T.z_len PySem.boot_len (pa_cons (pv 0) (pa_nil))) (pa_nil)))) (pa_nil)))) (pa_nil))) (pg_name (i := 2) sc_law.nd rfl (by first | exact Or.inl rfl | exact Or.inr rfl))
        (pss_cons (ps_set (i := 3) sc_law.nd rfl (by first | exact Or.inl rfl | exact Or.inr rfl) (gc c__law_box (hr.mono (by decide)) takes0 (pa_cons (gc c__law_cell (hr.mono (by decide)) takes0 (pa_cons (pv 0) (pa_cons (pv 2) (pa_nil)))) (pa_nil))))
      (pss_cons (ps_set (i := 4) sc_law.nd rfl (by first | exact Or.inl rfl | exact Or.inr rfl) (gc c__law_scene (hr.mono (by decide)) takes0 (pa_cons (pv 3) (pa_nil))))
      (pss_cons (ps_if (PW.pt (pw_or (pt_cmpR op_isN (pv 4) (pe_non) (by first | exact nomark _ | rfl)) (pw_or1 (pt_not (pt_val (gc c__law_chained (hr.mono (by decide)) takes0 (pa_cons (pv 3) (pa_cons (pe_ix (kixT K) (pv 4) (pe_int) (fun _ _ => rfl)) (pa_cons (pe_ix (kixT K) (pv 4) (pe_int) (fun _ _ => rfl)) (pa_cons (pe_ix (kixT K) (pv 4) (pe_int) (fun _ _ => rfl)) (pa_nil))))))))))) (pss_one (ps_ret (pe_bl))) (pss_nil))
      (pss_cons (ps_if (pt_not (pt_val (gc c__law_right (hr.mono (by decide)) takes0 (pa_cons (pe_ix (kixT K) (pv 4) (pe_int) (fun _ _ => rfl)) (pa_cons (pe_ix (kixT K) (pv 4) (pe_int) (fun _ _ => rfl)) (pa_cons (pe_ix (kixT K) (pv 4) (pe_int) (fun _ _ => rfl)) (pa_nil))))))) (pss_one (ps_ret (pe_bl))) (pss_nil))
      (pss_cons (ps_if (PW.pt (pw_or (pt_not (pt_val (gc c__law_deed (hr.mono (by decide)) takes0 (pa_cons (pv 3) (pa_cons (pe_ix (kixT K) (pv 4) (pe_int) (fun _ _ => rfl)) (pa_cons (pe_ix (kixT K) (pv 4) (pe_int) (fun _ _ => rfl)) (pa_nil))))))) (pw_or1 (pt_not (pt_val (gc c__law_right (hr.mono (by decide)) takes0 (pa_cons (pe_ix (kixT K) (pv 4) (pe_int) (fun _ _ => rfl)) (pa_cons (pe_ix (kixT K) (pv 4) (pe_int) (fun _ _ => rfl)) (pa_cons (pe_ix (kixT K) (pv 4) (pe_int) (fun _ _ => rfl)) (pa_nil)))))))))) (pss_one (ps_ret (pe_bl))) (pss_nil))
      (pss_cons (ps_if (PW.pt (pw_and (pt_cmpR op_notN (pv 1) (pe_non) (by first | exact nomark _ | rfl)) (pw_and1 (pt_not (pt_val (gc c__law_right (hr.mono (by decide)) takes0 (pa_cons (pe_ix (kixT K) (pv 1) (pe_int) (fun _ _ => rfl)) (pa_cons (pe_ix (kixT K) (pv 1) (pe_int) (fun _ _ => rfl)) (pa_cons (pe_ix (kixT K) (pv 1) (pe_int) (fun _ _ => rfl)) (pa_nil)))))))))) (pss_one (ps_ret (pe_bl))) (pss_nil))
      (pss_one (ps_set (i := 1) sc_law.nd rfl (by first | exact Or.inl rfl | exact Or.inr rfl) (pv 4))))))))))
      (pss_one (ps_ret (pe_bl)))), ?_⟩
    refine ⟨_, rfl, a, _, rfl, .inl scr.sq, _, _, rfl, _, _, rfl, _, rfl, ?_, ?_, for_range (lo := 0) (n := _) (fun i σ H' => ∃ bv v2 v3 v4, σ = [some (.ref a), some bv, v2, v3, v4] ∧ Scr K H' a ns ∧ Bes K H' bv) ⟨.non, _, _, _, rfl, scr, .inl rfl⟩ ?_ ?_⟩
    · omega
    · omega
    · rintro i σ H1 hi ⟨bv, v2, v3, v4, rfl, scr1, bes1⟩
      refine ⟨_, rfl, _, rfl, a, ns, i, by rw [Int.zero_add], scr1.sq, fun z => ⟨z, rfl, fun b H2 hb k2' b2 => ?_⟩⟩
      have k2 : Kp [] H1 H2 := fun c o ec _ => (k2' c (ne_of_none ec hb)).trans ec
      have scr2 := scr1.kp0 k2
      have bes2 := bes1.kp k2 fun _ z => by cases z
      refine ⟨_, rfl, b, 0, rfl, b2, by decide, fun p H3 s x d kvs k3 b3 sc3 ln3 lk3 fr3 ep3 => ?_⟩
      have k13 : Kp [] H1 H3 := fun c o ec _ => k3 c o (k2 c o ec (by simp)) (by simpa using ne_of_none ec hb)
      have fr1 : ∀ c ∈ sfoot s x d, H1 c = none := fun c hc => k2.free (fr3 c hc)
      have nbf3 : b ∉ sfoot s x d := fun z => by
        obtain ⟨_, _, _, e, _⟩ := b2
        rw [fr3 b z] at e; cases e
      have nt3 : ∀ {H' : Hp} {s' : HSt} {x' : WSt} {kvs' : List (L2.Key × V)}, BoxAt H' b 0 ∨ (∃ m, BoxAt H' b m) → Scn K H' s' x' d kvs' → ∀ c ∈ b :: sfoot s' x' d, ∀ xs, H' c ≠ some (.tup xs) := fun bx sc c hc xs e => by
        rcases List.mem_cons.mp hc with z | z
        · rw [z] at e
          rcases bx with bx | ⟨m, bx⟩
          · exact bx.nt b (by simp) xs e
          · exact bx.nt b (by simp) xs e
        · obtain ⟨o, eo, n, _⟩ := sc.std c z
          rw [e] at eo; exact n xs (Option.some.inj eo).symm
      walk_at "nx"
      refine cut_if (fun bb H4 => bb = false ∧ ∃ s1 x1 kvs1 m, s1.p = s.p ∧ x1.m = x.m ∧ Scn K H4 s1 x1 d kvs1 ∧ s1.rs.length ≤ 139 ∧ BoxAt H4 b m ∧ m < 100000 ∧ Kp [] H1 H4 ∧ H4 p = some (.tup [.ref s.p, .ref x.m, .ref d]) ∧ b ∉ sfoot s1 x1 d ∧ ∀ c ∈ sfoot s1 x1 d, H1 c = none) (fun Q' q' => ?_) ?_
      · refine ⟨_, rfl, rfl, _, rfl, iteF ?_⟩
        refine ⟨_, rfl, _, rfl, p, _, _, _, rfl, rfl, SqT.of ep3, rfl, _, rfl, p, _, _, _, rfl, rfl, SqT.of ep3, rfl, _, rfl, p, _, _, _, rfl, rfl, SqT.of ep3, rfl, s, x, b, d, _, kvs, rfl, b3, by omega, sc3, ln3, lk3, nbf3, fun H4 s1 x1 kvs1 k4 b4 e1 e2 sc4 l4 gf => ⟨_, rfl, q' _ _ ⟨rfl, s1, x1, kvs1, _, e1, e2, sc4, l4, b4, by omega, fun c o ec _ => ?_, k4 _ _ ep3 (fun z => nt3 (.inr ⟨_, b3⟩) sc3 p z _ ep3), fun z => ?_, fun c hc => ?_⟩⟩⟩
        · refine k4 c o (k13 c o ec (by simp)) fun z => ?_
          rcases List.mem_cons.mp z with z | z
          · exact ne_of_none ec hb z
          · rw [fr1 c z] at ec; cases ec
        · rcases List.mem_cons.mp z with z | z
          · exact nbf3 (by rw [← z]; exact List.mem_cons_self)
          · rcases gf b (List.mem_append.mp z) with h | h | h
            · exact nbf3 (List.mem_cons_of_mem _ (List.mem_append_left _ h))
            · exact nbf3 (List.mem_cons_of_mem _ (List.mem_append_right _ h))
            · obtain ⟨_, _, _, e, _⟩ := b3
              rw [h] at e; cases e
        · rcases List.mem_cons.mp hc with z | z
          · rw [z]; exact fr1 d List.mem_cons_self
          · rcases gf c (List.mem_append.mp z) with h | h | h
            · exact fr1 c (List.mem_cons_of_mem _ (List.mem_append_left _ h))
            · exact fr1 c (List.mem_cons_of_mem _ (List.mem_append_right _ h))
            · exact k13.free h
      rintro bb H4' ⟨rfl, s1, x1, kvs1, m, es1, ex1, sc4', l4, b4', hm, k14', ep4', nbf4, fr1'⟩
      refine iteF ?_
      walk_at "nx"
      refine cut_if (fun bb H4 => bb = false ∧ Kp [] H4' H4) (fun Q' q' => ?_) ?_
      · refine ⟨_, rfl, p, _, _, _, rfl, rfl, SqT.of ep4', rfl, _, rfl, p, _, _, _, rfl, rfl, SqT.of ep4', rfl, _, rfl, p, _, _, _, rfl, rfl, SqT.of ep4', rfl, s1, x1, d, kvs1, by rw [es1, ex1], sc4', by omega, fun H4 k4 => ⟨_, rfl, q' _ _ ⟨rfl, k4⟩⟩⟩
      rintro bb H4 ⟨rfl, k4⟩
      refine iteF ?_
      have k14 := k14'.trans k4
      have sc4 := sc4'.kp0 k4
      have ep4 := k4 _ _ ep4' (by simp)
      have b4 := b4'.kp k4 (by simp)
      rw [← es1, ← ex1] at ep4
      clear fr1
      have fr1 := fr1'
      have nbf : b ∉ sfoot s1 x1 d := fun z => nbf4 z
      walk_at "nx"
      refine cut_if (fun bb H5 => bb = false ∧ ∃ s' x', s'.p = s1.p ∧ x'.m = x1.m ∧ Scn K H5 s' x' d kvs1 ∧ s'.rs.length ≤ 180 ∧ Kp [] H1 H5 ∧ H5 p = some (.tup [.ref s1.p, .ref x1.m, .ref d])) (fun Q' q' => ?_) ?_
      · refine ⟨_, rfl, _, rfl, p, _, _, _, rfl, rfl, SqT.of ep4, rfl, _, rfl, p, _, _, _, rfl, rfl, SqT.of ep4, rfl, s1, x1, b, _, rfl, b4, by omega, sc4.hw, fun z => nbf (List.mem_cons_of_mem _ (List.mem_append_left _ z)), fun z => nbf (List.mem_cons_of_mem _ (List.mem_append_right _ z)), by omega, fun H5 s' x' k5 hw5 gr b5 => ?_⟩
        obtain ⟨ep, em, gf, gl, gm, gw⟩ := gr
        have nt : ∀ c ∈ b :: (s1.foot ++ x1.foot), ∀ xs, H4 c ≠ some (.tup xs) := fun c hc xs e => by
          rcases List.mem_cons.mp hc with z | z
          · rw [z] at e; exact b4.nt b (by simp) xs e
          · obtain ⟨o, eo, n, _⟩ := sc4.std c (List.mem_cons_of_mem _ z)
            rw [e] at eo; exact n xs (Option.some.inj eo).symm
        have ep5 := k5 _ _ ep4 fun z => nt p z _ ep4
        have k15 : Kp [] H1 H5 := fun c o ec _ => k5 c o (k14 c o ec (by simp)) fun z => by
          rcases List.mem_cons.mp z with z | z
          · exact ne_of_none ec hb z
          · rw [fr1 c (List.mem_cons_of_mem _ z)] at ec; cases ec
        have dn : d ∉ s'.foot ∧ d ∉ x'.foot := by
          have : ∀ c, c ∈ s'.foot ∨ c ∈ x'.foot → c ≠ d := fun c hc z => by
            rcases gf c hc with h | h | h
            · exact sc4.n1 (z ▸ h)
            · exact sc4.n2 (z ▸ h)
            · rw [z, sc4.ed] at h; cases h
          exact ⟨fun z => this d (.inl z) rfl, fun z => this d (.inr z) rfl⟩
        have ndf : d ∉ b :: (s1.foot ++ x1.foot) := fun z => by
          rcases List.mem_cons.mp z with z | z
          · exact nbf (by rw [← z]; exact List.mem_cons_self)
          · rcases List.mem_append.mp z with z | z
            · exact sc4.n1 z
            · exact sc4.n2 z
        have sc5 : Scn K H5 s' x' d kvs1 := ⟨hw5, k5 _ _ sc4.ed ndf, sc4.hd.more gw, dn.1, dn.2, by omega⟩
        refine ⟨_, rfl, iteF ?_⟩
        refine ⟨_, rfl, p, _, _, _, rfl, rfl, SqT.of ep5, rfl, _, rfl, p, _, _, _, rfl, rfl, SqT.of ep5, rfl, _, rfl, p, _, _, _, rfl, rfl, SqT.of ep5, rfl, s', x', d, kvs1, by rw [ep, em], sc5, by omega, fun H6 k6 => ⟨_, rfl, q' _ _ ⟨rfl, s', x', ep, em, sc5.kp0 k6, by omega, k15.trans k6, k6 _ _ ep5 (by simp)⟩⟩⟩
      rintro bb H5 ⟨rfl, s', x', ep, em, sc5, ls5, k15, ep5⟩
      refine iteF ?_
      have bes5 := bes1.kp k15 fun _ z => by cases z
      walk_at "nx"
      refine cut_if (fun bb H6 => bb = false ∧ Kp [] H5 H6) (fun Q' q' => ?_) ?_
      · refine ⟨_, rfl, rfl, _, rfl, ?_⟩
        rcases bes5 with rfl | ⟨p2, s2, x2, d2, kv2, rfl, ep2, sc2, l2⟩
        · exact iteF (q' _ _ ⟨rfl, Kp.refl⟩)
        · refine iteT ⟨_, rfl, p2, _, _, _, rfl, rfl, SqT.of ep2, rfl, _, rfl, p2, _, _, _, rfl, rfl, SqT.of ep2, rfl, _, rfl, p2, _, _, _, rfl, rfl, SqT.of ep2, rfl, s2, x2, d2, kv2, rfl, sc2, l2, fun H6 k6 => ⟨_, rfl, q' _ _ ⟨rfl, k6⟩⟩⟩
      rintro bb H6 ⟨rfl, k6⟩
      refine iteF ?_
      exact ⟨_, rfl, _, _, _, _, rfl, scr1.kp0 (k15.trans k6), .inr ⟨p, s', x', d, kvs1, rfl, by rw [ep, em]; exact k6 _ _ ep5 (by simp), sc5.kp0 k6, ls5⟩⟩
    · rintro σ H' ⟨bv, v2, v3, v4, rfl, _, _⟩
      exact q H'
end

end Lw
namespace Lw
open PySem PySem.Spec L2 FG
open PyProof.Rows hiding St
/-! ### all of the house's methods keep what is said of them -/
structure HoM (P : Program) (w : World) (K : PySem.W.Frag) (mg : Str → Option Value) (base : Heap) : Prop where
  is_number : Cal P w K mg base 1 "is_number" spNumG
  is_wholeG : Cal P w K mg base 2 "is_whole" spWholeG
  is_pair : Cal P w K mg base 2 "is_pair" spPair
  init : Mak P w K mg base 3 "House" (CH K) (spHInit K)
  need_begun : Met P w K mg base 3 (CH K) "need_begun" (spBeg (CH K))
  need_standing : Met P w K mg base 4 (CH K) "need_standing" (spStd (CH K))
  begin_ : Met P w K mg base 5 (CH K) "begin" (spBegin (CH K))
  standing : Met P w K mg base 1 (CH K) "standing" (spStanding (CH K))
  row : Met P w K mg base 4 (CH K) "row" (spRow (CH K))
  finish : Met P w K mg base 5 (CH K) "finish" (spHFin K)
  need_room : Met P w K mg base 3 (CH K) "need_room" (spRoomN K)
  need_cell : Met P w K mg base 4 (CH K) "need_cell" (spCellN K)
  is_value : Met P w K mg base 3 (CH K) "is_value" (spIsVal K)
  get : Met P w K mg base 5 (CH K) "get" (spGet K)
  put : Met P w K mg base 5 (CH K) "put" (spPut K)
  size : Met P w K mg base 4 (CH K) "size" (spSize K)
  cells : Met P w K mg base 4 (CH K) "cells" (spCells K)
  rooms : Met P w K mg base 5 (CH K) "rooms" (spRooms K)
  used : Met P w K mg base 1 (CH K) "used" (spUsed K)
  left : Met P w K mg base 2 (CH K) "left" (spLeft K)
  make : Met P w K mg base 5 (CH K) "make" (spMake K)
  limit : Met P w K mg base 1 (CH K) "limit" (spLimit K)
  greatest : Met P w K mg base 1 (CH K) "greatest" (spGreatest K)
section
variable {P : Program} {w : World} {K : PySem.W.Frag} {mg : Str → Option Value} {base : Heap}
theorem ho_all (T : Tx K mg) : HoM P w K mg base := by
  have c_is_number : Cal P w K mg base 1 "is_number" spNumG := Cal.of T.g_is_number T.F_is_number (fun F => F.binds (ps := ["thing"]) fun _ _ _ _ _ _ us hl => match us, hl with | [_], _ => rfl) (ok_number T)
  have c_is_wholeG : Cal P w K mg base 2 "is_whole" spWholeG := Cal.of T.g_is_whole T.F_is_whole (fun F => F.binds (ps := ["thing", "low", "high"]) fun _ _ _ _ _ _ us hl => match us, hl with | [_, _, _], _ => rfl) fun F => ok_whole T F c_is_number
  have c_is_whole : Cal P w K mg base 2 "is_whole" spWhole := whole_of c_is_wholeG
  have c_is_pair : Cal P w K mg base 2 "is_pair" spPair := Cal.of T.g_is_pair T.F_is_pair (fun F => F.binds (ps := ["thing"]) fun _ _ _ _ _ _ us hl => match us, hl with | [_], _ => rfl) fun F => ok_pair T F c_is_number
  have u_Frames : Unb P w K mg base 1 "Frames" "__init__" (spFInit (CH K)) := Unb.of T.u_Frames___init__ T.g_Frames T.F_Frames___init__ (fun F => F.binds (ps := ["self"]) fun _ _ _ _ _ _ us hl => match us, hl with | [_], _ => rfl) (ok_finit T T.c_House T.n_House_holders T.n_House_takers)
  have k_House : Mak P w K mg base 3 "House" (CH K) (spHInit K) := Mak.of T.k_House T.g_House T.F_House___init__ (fun F => F.binds (ps := ["self", "limit"]) fun _ _ _ _ _ _ us hl => match us, hl with | [_, _], _ => rfl) fun F => ok_hinit T F c_is_whole u_Frames
  have m_need_begun : Met P w K mg base 3 (CH K) "need_begun" (spBeg (CH K)) := Met.of T.c_House T.m_House_need_begun T.F_House_need_begun (fun F => F.binds (ps := ["self", "frame"]) fun _ _ _ _ _ _ us hl => match us, hl with | [_, _], _ => rfl) fun F => ok_begun_ T T.c_House T.n_House_holders T.n_House_takers F c_is_whole (rai_NoFrame T)
  have m_need_standing : Met P w K mg base 4 (CH K) "need_standing" (spStd (CH K)) := Met.of T.c_House T.m_House_need_standing T.F_House_need_standing (fun F => F.binds (ps := ["self", "frame"]) fun _ _ _ _ _ _ us hl => match us, hl with | [_, _], _ => rfl) fun F => ok_std T T.c_House T.n_House_holders T.n_House_takers F m_need_begun (rai_Gone T)
  have m_need_more : Met P w K mg base 3 (CH K) "need_more" (spMore (CH K)) := Met.of T.c_House T.m_House_need_more T.F_House_need_more (fun F => F.binds (ps := ["self"]) fun _ _ _ _ _ _ us hl => match us, hl with | [_], _ => rfl) fun F => ok_more T T.c_House T.n_House_holders T.n_House_takers F (rai_TooMany T)
  have m_begin : Met P w K mg base 5 (CH K) "begin" (spBegin (CH K)) := Met.of T.c_House T.m_House_begin T.F_House_begin (fun F => F.binds (ps := ["self", "frame"]) fun _ _ _ _ _ _ us hl => match us, hl with | [_, _], _ => rfl) fun F => ok_begin T T.c_House T.n_House_holders T.n_House_takers F m_need_standing m_need_more
  have m_standing : Met P w K mg base 1 (CH K) "standing" (spStanding (CH K)) := Met.of T.c_House T.m_House_standing T.F_House_standing (fun F => F.binds (ps := ["self"]) fun _ _ _ _ _ _ us hl => match us, hl with | [_], _ => rfl) (ok_standing T T.c_House T.n_House_holders T.n_House_takers)
  have m_row : Met P w K mg base 4 (CH K) "row" (spRow (CH K)) := Met.of T.c_House T.m_House_row T.F_House_row (fun F => F.binds (ps := ["self", "frame"]) fun _ _ _ _ _ _ us hl => match us, hl with | [_, _], _ => rfl) fun F => ok_row T T.c_House T.n_House_holders T.n_House_takers F m_need_begun
  have m_clear : Met P w K mg base 1 (CH K) "clear" (spHClear K) := Met.of T.c_House T.m_House_clear T.F_House_clear (fun F => F.binds (ps := ["self", "frame"]) fun _ _ _ _ _ _ us hl => match us, hl with | [_, _], _ => rfl) (ok_hclear T)
  have m_finish : Met P w K mg base 5 (CH K) "finish" (spHFin K) := Met.of T.c_House T.m_House_finish T.F_House_finish (fun F => F.binds (ps := ["self", "frame"]) fun _ _ _ _ _ _ us hl => match us, hl with | [_, _], _ => rfl) fun F => ok_hfinish T F m_need_standing m_standing m_row m_clear
  have m_need_room : Met P w K mg base 3 (CH K) "need_room" (spRoomN K) := Met.of T.c_House T.m_House_need_room T.F_House_need_room (fun F => F.binds (ps := ["self", "way"]) fun _ _ _ _ _ _ us hl => match us, hl with | [_, _], _ => rfl) fun F => ok_room T F c_is_pair (rai_NoWay T) (rai_Gone T)
  have m_need_cell : Met P w K mg base 4 (CH K) "need_cell" (spCellN K) := Met.of T.c_House T.m_House_need_cell T.F_House_need_cell (fun F => F.binds (ps := ["self", "way", "k"]) fun _ _ _ _ _ _ us hl => match us, hl with | [_, _, _], _ => rfl) fun F => ok_cellN T F m_need_room c_is_whole (rai_NoCell T)
  have m_is_value : Met P w K mg base 3 (CH K) "is_value" (spIsVal K) := Met.of T.c_House T.m_House_is_value T.F_House_is_value (fun F => F.binds (ps := ["self", "thing"]) fun _ _ _ _ _ _ us hl => match us, hl with | [_, _], _ => rfl) fun F => ok_isval T F c_is_number c_is_pair
  have m_get : Met P w K mg base 5 (CH K) "get" (spGet K) := Met.of T.c_House T.m_House_get T.F_House_get (fun F => F.binds (ps := ["self", "way", "k"]) fun _ _ _ _ _ _ us hl => match us, hl with | [_, _, _], _ => rfl) fun F => ok_get T F m_need_cell
  have m_put : Met P w K mg base 5 (CH K) "put" (spPut K) := Met.of T.c_House T.m_House_put T.F_House_put (fun F => F.binds (ps := ["self", "way", "k", "value"]) fun _ _ _ _ _ _ us hl => match us, hl with | [_, _, _, _], _ => rfl) fun F => ok_put T F m_need_cell m_is_value (rai_NoValue T)
  have m_size : Met P w K mg base 4 (CH K) "size" (spSize K) := Met.of T.c_House T.m_House_size T.F_House_size (fun F => F.binds (ps := ["self", "way"]) fun _ _ _ _ _ _ us hl => match us, hl with | [_, _], _ => rfl) fun F => ok_size T F m_need_room
  have m_cells : Met P w K mg base 4 (CH K) "cells" (spCells K) := Met.of T.c_House T.m_House_cells T.F_House_cells (fun F => F.binds (ps := ["self", "way"]) fun _ _ _ _ _ _ us hl => match us, hl with | [_, _], _ => rfl) fun F => ok_cells T F m_need_room
  have m_rooms : Met P w K mg base 5 (CH K) "rooms" (spRooms K) := Met.of T.c_House T.m_House_rooms T.F_House_rooms (fun F => F.binds (ps := ["self", "frame"]) fun _ _ _ _ _ _ us hl => match us, hl with | [_, _], _ => rfl) fun F => ok_rooms T F m_need_standing
  have m_used : Met P w K mg base 1 (CH K) "used" (spUsed K) := Met.of T.c_House T.m_House_used T.F_House_used (fun F => F.binds (ps := ["self"]) fun _ _ _ _ _ _ us hl => match us, hl with | [_], _ => rfl) (ok_used T)
  have m_left : Met P w K mg base 2 (CH K) "left" (spLeft K) := Met.of T.c_House T.m_House_left T.F_House_left (fun F => F.binds (ps := ["self"]) fun _ _ _ _ _ _ us hl => match us, hl with | [_], _ => rfl) fun F => ok_left T F m_used
  have m_make : Met P w K mg base 5 (CH K) "make" (spMake K) := Met.of T.c_House T.m_House_make T.F_House_make (fun F => F.binds (ps := ["self", "frame", "size"]) fun _ _ _ _ _ _ us hl => match us, hl with | [_, _, _], _ => rfl) fun F => ok_make T F m_need_standing c_is_whole m_left m_used (rai_NoNumber T) (rai_Full T)
  have m_limit : Met P w K mg base 1 (CH K) "limit" (spLimit K) := Met.of T.c_House T.m_House_limit T.F_House_limit (fun F => F.binds (ps := ["self"]) fun _ _ _ _ _ _ us hl => match us, hl with | [_], _ => rfl) (ok_limit T)
  have m_greatest : Met P w K mg base 1 (CH K) "greatest" (spGreatest K) := Met.of T.c_House T.m_House_greatest T.F_House_greatest (fun F => F.binds (ps := ["self"]) fun _ _ _ _ _ _ us hl => match us, hl with | [_], _ => rfl) (ok_greatest T)
  exact {
    is_number := c_is_number,
    is_wholeG := c_is_wholeG,
    is_pair := c_is_pair,
    init := k_House,
    need_begun := m_need_begun,
    need_standing := m_need_standing,
    begin_ := m_begin,
    standing := m_standing,
    row := m_row,
    finish := m_finish,
    need_room := m_need_room,
    need_cell := m_need_cell,
    is_value := m_is_value,
    get := m_get,
    put := m_put,
    size := m_size,
    cells := m_cells,
    rooms := m_rooms,
    used := m_used,
    left := m_left,
    make := m_make,
    limit := m_limit,
    greatest := m_greatest,
  }
end

end Lw
namespace Lw
open PySem PySem.Spec L2 FG
open PyProof.Rows hiding St
/-! ### all together -/
section
variable {P : Program} {w : World} {K : PySem.W.Frag} {mg : Str → Option Value} {base : Heap}
theorem law_ok (T : Tx K mg) {fd : FuncData} (F : Fun K "law" "law" s_law (He.ga K "law") fd) : FnG P w K mg base 9 (He.ga K "law") fd ["_law_script"] (spLaw K) := by
  have M : HoM P w K mg base := ho_all T
  have m_picture : Met P w K mg base 6 (CH K) "picture" (spPicture K) := Met.of T.c_House T.m_House_picture T.F_House_picture (fun F => F.binds (ps := ["self"]) fun _ _ _ _ _ _ us hl => match us, hl with | [_], _ => rfl) fun F => ok_picture T F M.standing M.rooms
  have c_is_name : Cal P w K mg base 1 "is_name" spName := Cal.of T.g_is_name T.F_is_name (fun F => F.binds (ps := ["thing"]) fun _ _ _ _ _ _ us hl => match us, hl with | [_], _ => rfl) (ok_name T)
  have c_steps_from : Cal P w K mg base 5 "steps_from" (spStepsFrom K) := Cal.of T.g_steps_from T.F_steps_from (fun F => F.binds (ps := ["house", "holder", "inner"]) fun _ _ _ _ _ _ us hl => match us, hl with | [_, _, _], _ => rfl) fun F => ok_sfrom T F M.cells
  have c_rooms_inside : Cal P w K mg base 6 "rooms_inside" (spInside K) := Cal.of T.g_rooms_inside T.F_rooms_inside (fun F => F.binds (ps := ["house", "frame"]) fun _ _ _ _ _ _ us hl => match us, hl with | [_, _], _ => rfl) fun F => ok_inside T F M.standing M.row M.rooms
  have c_steps_in : Cal P w K mg base 6 "steps_in" (spStepsIn K) := Cal.of T.g_steps_in T.F_steps_in (fun F => F.binds (ps := ["house", "hands", "inner"]) fun _ _ _ _ _ _ us hl => match us, hl with | [_, _, _], _ => rfl) fun F => ok_sin T F M.standing M.rooms c_steps_from
  have c_need_ending : Cal P w K mg base 5 "need_ending" (spNeedEnd K) := Cal.of T.g_need_ending T.F_need_ending (fun F => F.binds (ps := ["house", "frame", "hands"]) fun _ _ _ _ _ _ us hl => match us, hl with | [_, _, _], _ => rfl) fun F => ok_needend T F M.need_standing c_is_name M.is_value
  have c_kept : Cal P w K mg base 7 "kept" (spKept K) := Cal.of T.g_kept T.F_kept (fun F => F.binds (ps := ["house", "frame", "hands"]) fun _ _ _ _ _ _ us hl => match us, hl with | [_, _, _], _ => rfl) fun F => ok_kept T F c_need_ending c_rooms_inside c_steps_in c_steps_from
  have c__law_cell : Cal P w K mg base 1 "_law_cell" (spCell K) := Cal.of T.g__law_cell T.F__law_cell (fun F => F.binds (ps := ["_law_script", "_law_k"]) fun _ _ _ _ _ _ us hl => match us, hl with | [_, _], _ => rfl) (ok_cell T)
  have c__law_box : Cal P w K mg base 1 "_law_box" spBox := Cal.of T.g__law_box T.F__law_box (fun F => F.binds (ps := ["_law_cell_here"]) fun _ _ _ _ _ _ us hl => match us, hl with | [_], _ => rfl) (ok_box T)
  have c__law_take : Cal P w K mg base 1 "_law_take" spTake := Cal.of T.g__law_take T.F__law_take (fun F => F.binds (ps := ["_law_box_here", "_law_many"]) fun _ _ _ _ _ _ us hl => match us, hl with | [_, _], _ => rfl) (ok_take T)
  have c__law_world : Cal P w K mg base 1 "_law_world" spWWorld := Cal.of T.g__law_world T.F__law_world (fun F => F.binds (ps := ["_law_limit"]) fun _ _ _ _ _ _ us hl => match us, hl with | [_], _ => rfl) (ok_wworld T)
  have c__law_standing : Cal P w K mg base 1 "_law_standing" spWStanding := Cal.of T.g__law_standing T.F__law_standing (fun F => F.binds (ps := ["_law_world_here"]) fun _ _ _ _ _ _ us hl => match us, hl with | [_], _ => rfl) (ok_wstanding T)
  have c__law_row : Cal P w K mg base 1 "_law_row" spWRow := Cal.of T.g__law_row T.F__law_row (fun F => F.binds (ps := ["_law_world_here", "_law_frame"]) fun _ _ _ _ _ _ us hl => match us, hl with | [_, _], _ => rfl) (ok_wrow T)
  have c__law_used : Cal P w K mg base 1 "_law_used" spWUsed := Cal.of T.g__law_used T.F__law_used (fun F => F.binds (ps := ["_law_world_here"]) fun _ _ _ _ _ _ us hl => match us, hl with | [_], _ => rfl) (ok_wused T)
  have c__law_begun : Cal P w K mg base 1 "_law_begun" spWBegun := Cal.of T.g__law_begun T.F__law_begun (fun F => F.binds (ps := ["_law_world_here", "_law_frame"]) fun _ _ _ _ _ _ us hl => match us, hl with | [_, _], _ => rfl) (ok_wbegun T)
  have c__law_given : Cal P w K mg base 2 "_law_given" spWGiven := Cal.of T.g__law_given T.F__law_given (fun F => F.binds (ps := ["_law_world_here", "_law_frame", "_law_size"]) fun _ _ _ _ _ _ us hl => match us, hl with | [_, _, _], _ => rfl) fun F => ok_wgiven T F c__law_used
  have c__law_ended : Cal P w K mg base 2 "_law_ended" spWEnded := Cal.of T.g__law_ended T.F__law_ended (fun F => F.binds (ps := ["_law_world_here", "_law_frame"]) fun _ _ _ _ _ _ us hl => match us, hl with | [_, _], _ => rfl) fun F => ok_wended T F c__law_standing c__law_row
  have c__law_all_rooms : Cal P w K mg base 2 "_law_all_rooms" spWAll := Cal.of T.g__law_all_rooms T.F__law_all_rooms (fun F => F.binds (ps := ["_law_world_here"]) fun _ _ _ _ _ _ us hl => match us, hl with | [_], _ => rfl) fun F => ok_wall T F c__law_standing
  have c__law_value : Cal P w K mg base 3 "_law_value" spWValue := Cal.of T.g__law_value T.F__law_value (fun F => F.binds (ps := ["_law_box_here", "_law_world_here"]) fun _ _ _ _ _ _ us hl => match us, hl with | [_, _], _ => rfl) fun F => ok_wvalue T F c__law_take c__law_all_rooms
  have c__law_deed : Cal P w K mg base 6 "_law_deed" (spWDeed K) := Cal.of T.g__law_deed T.F__law_deed (fun F => F.binds (ps := ["_law_box_here", "_law_house", "_law_world_here"]) fun _ _ _ _ _ _ us hl => match us, hl with | [_, _, _], _ => rfl) fun F => ok_wdeed T F c__law_take c__law_standing c__law_all_rooms c__law_begun c__law_used c__law_given c__law_ended c__law_value M.begin_ M.make M.finish M.put
  have c__law_names : Cal P w K mg base 2 "_law_names" spWNames := Cal.of T.g__law_names T.F__law_names (fun F => F.binds (ps := ["_law_box_here", "_law_many"]) fun _ _ _ _ _ _ us hl => match us, hl with | [_, _], _ => rfl) fun F => ok_wnames T F c__law_take
  have c__law_hands : Cal P w K mg base 4 "_law_hands" spWHands := Cal.of T.g__law_hands T.F__law_hands (fun F => F.binds (ps := ["_law_box_here", "_law_world_here"]) fun _ _ _ _ _ _ us hl => match us, hl with | [_, _], _ => rfl) fun F => ok_whands T F c__law_take c__law_names c__law_value
  have c__law_inner : Cal P w K mg base 3 "_law_inner" spWInner := Cal.of T.g__law_inner T.F__law_inner (fun F => F.binds (ps := ["_law_world_here", "_law_frame"]) fun _ _ _ _ _ _ us hl => match us, hl with | [_, _], _ => rfl) fun F => ok_winner T F c__law_all_rooms c__law_row
  have c__law_steps : Cal P w K mg base 4 "_law_steps" (spWSteps K) := Cal.of T.g__law_steps T.F__law_steps (fun F => F.binds (ps := ["_law_world_here", "_law_frame", "_law_hands_here"]) fun _ _ _ _ _ _ us hl => match us, hl with | [_, _, _], _ => rfl) fun F => ok_wsteps T F c__law_inner c__law_all_rooms
  have c__law_picture : Cal P w K mg base 2 "_law_picture" (spWPicture K) := Cal.of T.g__law_picture T.F__law_picture (fun F => F.binds (ps := ["_law_world_here"]) fun _ _ _ _ _ _ us hl => match us, hl with | [_], _ => rfl) fun F => ok_wpicture T F c__law_standing
  have c__law_scene : Cal P w K mg base 7 "_law_scene" (spWScene K) := Cal.of T.g__law_scene T.F__law_scene (fun F => F.binds (ps := ["_law_box_here"]) fun _ _ _ _ _ _ us hl => match us, hl with | [_], _ => rfl) fun F => ok_wscene T F M.init c__law_take c__law_world c__law_deed c__law_hands
  have c__law_kept : Cal P w K mg base 5 "_law_kept" (spWKept K) := Cal.of T.g__law_kept T.F__law_kept (fun F => F.binds (ps := ["_law_world_here", "_law_frame", "_law_hands_here"]) fun _ _ _ _ _ _ us hl => match us, hl with | [_, _, _], _ => rfl) fun F => ok_wkept T F c__law_inner c__law_steps
  have c__law_chained : Cal P w K mg base 6 "_law_chained" (spWChained K) := Cal.of T.g__law_chained T.F__law_chained (fun F => F.binds (ps := ["_law_box_here", "_law_house", "_law_world_here", "_law_hands_here"]) fun _ _ _ _ _ _ us hl => match us, hl with | [_, _, _, _], _ => rfl) fun F => ok_wchained T F c__law_take c__law_standing c__law_used c__law_given M.make M.put
  have c__law_walks : Cal P w K mg base 1 "_law_walks" (spWWalks K) := Cal.of T.g__law_walks T.F__law_walks (fun F => F.binds (ps := ["_law_world_here", "_law_hands_here", "_law_row_here"]) fun _ _ _ _ _ _ us hl => match us, hl with | [_, _, _], _ => rfl) (ok_wwalks T)
  have c__law_right : Cal P w K mg base 8 "_law_right" (spWRight K) := Cal.of T.g__law_right T.F__law_right (fun F => F.binds (ps := ["_law_house", "_law_world_here", "_law_hands_here"]) fun _ _ _ _ _ _ us hl => match us, hl with | [_, _, _], _ => rfl) fun F => ok_wright T F c__law_standing c__law_kept c_kept c__law_walks m_picture c__law_picture M.greatest
  exact ok_law T F c__law_cell c__law_box c__law_scene c__law_chained c__law_deed c__law_right
end

end Lw
open PySem PySem.W PySem.Calls PyProof.Rows
set_option maxHeartbeats 0 in
theorem PySem.Challenge.cw_framerooms_k27_kept_and_why_holds : PySem.Challenge.rw_framerooms_k27_kept_and_why.Holds := by
  w_on; o_law
  refine HandSHeadRun.head_any (r := OpenLaw.row PySem.Challenge.rw_framerooms_k27_kept_and_why) (q := view (OpenLaw.row PySem.Challenge.rw_framerooms_k27_kept_and_why).prog [59]) (H := Lw.hk) (ob := Lw.ob) (M := 9000) (loose := Lw.names0 ++ Lw.names1 ++ Lw.names2) (d := HandSHeadRun.topDef (OpenLaw.row PySem.Challenge.rw_framerooms_k27_kept_and_why).prog 59) (kwd := []) Lw.ob_eq
    (by kernel_rfl) (fun s => by kernel_rfl) Lw.run (by kernel_rfl) (by kernel_rfl) (by kernel_rfl) (by rfl) (by first | assumption | decide +kernel) (by decide +kernel) ⟨rfl, rfl, rfl, rfl, rfl, by decide +kernel⟩ ?hw ?hc
  case hw => w_witness2
  case hc =>
    refine FG.walk_G (l := PySem.Challenge.rw_framerooms_k27_kept_and_why) (n := 63) (k := 9) (x := "_law_script") rfl (by decide) (by kernel_rfl) ⟨rfl, by decide, by decide⟩ ?F
    intro w mg fa h Y G hmg0
    obtain ⟨K, KX, c⟩ := Y
    have hmg : mg ("law" : PySem.Str) = some (.ref fa) := by
      have e : (HandSHeadRun.topDef (OpenLaw.row PySem.Challenge.rw_framerooms_k27_kept_and_why).prog 59).name = ("law" : PySem.Str) := by kernel_rfl
      rw [← e]
      exact hmg0
    have T : Lw.Tx K mg := Lw.tx_of KX G c.1 c.2
    have e := hmg.symm.trans T.g_law
    cases e
    obtain ⟨fd, F⟩ := T.F_law
    have b := F.binds (ps := ["_law_script"]) fun _ _ _ _ _ _ us hl => match us, hl with | [_], _ => rfl
    refine ⟨K, fd, Lw.spLaw K, KX, fun s u => ?_, fun H a ns hl bits hO hS => ⟨a, ns, rfl, hl, Lw.Scr.of hO hS, fun _ => rfl⟩, fun base _ _ => Lw.law_ok T F⟩
    have F2 := F
    obtain ⟨oc, od, kV, doc, pm, an, cdv, ct, osl, rfl, lk, hcd⟩ := F2.ex
    exact BindsTo.of_eq rfl
