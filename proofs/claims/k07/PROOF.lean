import PyProof.Rows.All
import Wide.All
import OpenK.AllK
import Wide.FinOn
import HandS.ForMost
import HandS.Exc
import HandS.ExcOwn
import HandS.ExcInit
import HandS.ExcIs
import HandS.ExcField
import KE.KExcIs
import HandS.TryOnly
import HandS.TryMany
import HandS.WordsExc
import HandS.Defaults
import HandS.Flow
import HandS.Style
import HandS.More
import HandS.Wide
import HandS.Walk
import HandS.Conv
import PyProof.DictMoreH
import HandS.DictTup
import HandS.DictSubView
import HandS.HotCalls
import KE.DataFind
import HandS.Zip
import HandS.Rev
import HandS.IsInst
import HandS.EndBits
import HandS.Head0
import HandS.Head1
import HandS.Head2
import HandS.HeadEnd
import HandS.HeadHook1
import HandS.HeadHook2
import HandS.HeadHook3
import HandS.HeadHook4
import PySem.Challenge.RW_framerooms_k07_frames_refused
set_option Elab.async false
set_option linter.all false
set_option maxRecDepth 100000
set_option maxHeartbeats 4000000
/-! GBase: calls whose frames know that no repr is running (guards), for defs that may raise; repr of data. Own layer over HandS. -/
namespace FG
open PySem PySem.Spec L2
open PyProof.Rows hiding St

/-- room for calls, and no guard stands around -/
structure RG (k : Nat) (A : Around) : Prop where
  r : Room k A
  g : A.guards = some []
theorem RG.mono {j k : Nat} {A : Around} (h : RG k A) (q : j ≤ k := by decide) : RG j A := ⟨h.r.mono q, h.g⟩
theorem RG.hu {k : Nat} {A : Around} (h : RG k A) : A.units + 1 < cLine := hu_of h.r

/-- a def's promise where the guards are known -/
structure FnG (P : Program) (w : World) (K : PySem.W.Frag) (mg : Str → Option Value) (base : Heap) (k : Nat) (f : Addr) (fd : FuncData) (ps : List Str) (sp : Sp) : Prop where
  nargs : ∀ vs H Q E, sp vs H Q E → vs.length = ps.length
  goes : ∀ (A : Around) (outer : List Env) (s : Shared) (H : Hp) (ar : Args) (us : List Value) (vs : List V) (Q : VK) (E : XK),
    RG k A → Env0 P w K mg base A outer s H → BindsTo s fd ar (ps.zip us) → Vals vs us → sp vs H Q E → codeAny (model P w) A (.call (.ref f) ar) (CR (L2.CX P w) outer P w H s Q E) s
theorem FnG.weaker {P : Program} {w : World} {K : PySem.W.Frag} {mg : Str → Option Value} {base : Heap} {k : Nat} {f : Addr} {fd : FuncData} {ps : List Str} {sp sp' : Sp} (F : FnG P w K mg base k f fd ps sp)
    (h : ∀ vs H Q E, sp' vs H Q E → sp vs H Q E) : FnG P w K mg base k f fd ps sp' :=
  ⟨fun vs H Q E z => F.nargs vs H Q E (h _ _ _ _ z), fun A outer s H ar us vs Q E a b c d z => F.goes A outer s H ar us vs Q E a b c d (h _ _ _ _ z)⟩

section
variable {P : Program} {w : World} {K : PySem.W.Frag} {mg : Str → Option Value} {base : Heap}
/-- a def of the text, by its body -/
theorem FnG.of {x qual : Str} {st : Stmt} {f : Addr} {fd : FuncData} {N ps : List Str} {k : Nat} {sp : Sp} (F : Fun K x qual st f fd) (S : FnScope N ps (defScope st)) (hn : ∀ vs H Q E, sp vs H Q E → vs.length = ps.length)
    (hb : ∀ (cdv : Value) (A : Around) (outer : List Env) (s : Shared) (H : Hp) (vs : List V) (Q : VK) (E : XK), RG k (A.deeper (envOfC qual (defScope st) s.heap.objs.size f cdv)) → sp vs H Q E →
      ∃ t, PSs (cxOf (L2.CX P w) P w K mg base N qual (defScope st) f cdv A outer s H E) (defBody st) t ∧ t { nx := fun _ H' => Q .non H', rt := Q } (start N vs) H) : FnG P w K mg base (k + 1) f fd ps sp := by
  obtain ⟨oc, od, kV, doc, pm, an, cdv, ct, osl, rfl, lk, hcd⟩ := F.ex
  refine ⟨hn, fun A outer s H ar us vs Q E hg env0 bnd rel hsp => ?_⟩
  have len := hn _ _ _ _ hsp
  have inK : K.In s.heap := env0.mod.kin.keeps fun b o z => (env0.bs b o z).1
  have nol : s.heap.NoLimit := env0.mod.nolimit.keeps fun b o z => (env0.bs b o z).1
  have hk : ∀ y ∈ ps.zip us, (defScope st).names.lookup y.1 = some .local ∨ ((defScope st).names.lookup y.1 = some .cell ∧ ((cellsFrom (s.heap.objs.size + 1) (defScope st).names []).lookup y.1).isSome = true) := by
    rintro ⟨n, v⟩ hy
    exact (S.par n (List.of_mem_zip hy).1).elim .inl fun q => .inr ⟨q, PySem.W.cellsFrom_some _ _ _ (.inl q)⟩
  refine codeAny_call_function hg.r.depth (inK _ _ lk) rfl S.co S.gen rfl (PySem.W.codeRec_of inK hcd) (bnd _ _ _ _ ?_)
  refine wpAny_newFunctionEnv_cells S.kind hk fun env ee s1 inc => ?_
  subst ee
  refine ⟨nol.keeps inc.toInCall.keep, codeAny_func ?_⟩
  obtain ⟨t, ht, hq⟩ := hb cdv A outer s H vs Q E ⟨hg.r.deeper _, hg.g⟩ hsp
  have I0 : Inv (cxOf (L2.CX P w) P w K mg base N qual (defScope st) f cdv A outer s H E) [] (start N vs) H s1 := inv_start S hg.r.hd env0 len rel inc
  refine wpAny_mono (ht.run [] s1 (start N vs) H _ I0 hq) (fun fl s2 hs => ?_) fun _ _ hs => hs
  have fin : ∀ {σ2 : St} {H2 : Hp} {v : V} {u : Value}, Inv (cxOf (L2.CX P w) P w K mg base N qual (defScope st) f cdv A outer s H E) [] σ2 H2 s2 → RelV v u → Q v H2 → CE outer P w H s Q u s2 := by
    intro σ2 H2 v u J rv q
    exact ⟨v, H2, J.os, J.bare, J.base, J.hok, rv, q⟩
  match fl, hs with
  | .ret u, ⟨v, σ2, H2, J, rv, q⟩ => exact fin J rv q
  | .next, ⟨σ2, H2, J, q⟩ => exact fin (v := V.non) (u := Value.none) J rfl q
  | .brk, ⟨_, _, _, q⟩ => exact q.elim
  | .cont, ⟨_, _, _, q⟩ => exact q.elim
end

/-! ### defs, methods, classes as their callers see them -/
/-- the module's def x keeps sp -/
structure Cal (P : Program) (w : World) (K : PySem.W.Frag) (mg : Str → Option Value) (base : Heap) (k : Nat) (x : Str) (sp : Sp) : Prop where
  ex : ∃ (f : Addr) (fd : FuncData) (ps : List Str), FnG P w K mg base k f fd ps sp ∧ mg x = some (.ref f) ∧ PySem.W.keepIn K (.ref f) = true ∧ Binds K fd ps []
/-- the method m of the class at C keeps sp -/
structure Met (P : Program) (w : World) (K : PySem.W.Frag) (mg : Str → Option Value) (base : Heap) (k : Nat) (C : Addr) (m : Str) (sp : Sp) : Prop where
  ex : ∃ (f : Addr) (fd : FuncData) (ps : List Str), Cls K C ∧ Meth K C m f ∧ FnG P w K mg base k f fd ps sp ∧ Binds K fd ps []
/-- the class x, at C, is made by an __init__ that keeps sp -/
structure Mak (P : Program) (w : World) (K : PySem.W.Frag) (mg : Str → Option Value) (base : Heap) (k : Nat) (x : Str) (C : Addr) (sp : Sp) : Prop where
  ex : ∃ (f : Addr) (fd : FuncData) (ps : List Str), Mk K C f ∧ FnG P w K mg base k f fd ps sp ∧ mg x = some (.ref C) ∧ Binds K fd ps []

theorem make_guards {A : Around} {C : Addr} {us : List Value} {kw : List (Str × Value)} : (A.under (.builtin "type.__call__" ⟨.ref C :: us, kw⟩)).guards = A.guards := by
  first | rfl | simp [Around.under, Code.guards, Code.isGuard, guardIds, pushGuards]

/-- a call's reading: the arguments, then the promise; W: what is wanted of an exception -/
def tG (sp : Sp) (W : WX) (t : TA) : TE := fun σ H Q => t σ H fun vs H1 => sp vs H1 Q (fun cls d H2 => W cls d σ H2)
/-- o.m(..) -/
def tGm (C : Addr) (m : Str) (sp : Sp) (W : WX) (ta : TE) (t : TA) : TE := fun σ H Q => ta σ H fun x H1 => ∃ a dx fs, x = .ref a ∧ H1 a = some (.ins C dx fs) ∧ fs.lookup m = none ∧
  t σ H1 fun vs H2 => sp (x :: vs) H2 Q (fun cls d H3 => W cls d σ H3)
/-- C(..) -/
def tGk (C : Addr) (sp : Sp) (W : WX) (t : TA) : TE := fun σ H Q => t σ H fun vs H1 => ∀ x dx, H1 x = none → H1 dx = none → dx ≠ x →
  sp (.ref x :: vs) (upd (upd H1 dx (.own x)) x (.ins C dx [])) (fun v H2 => v = .non ∧ Q (.ref x) H2) (fun cls d H2 => W cls d σ H2)

section
variable {X : Cx} {k : Nat} {f C : Addr} {fd : FuncData} {ps : List Str} {sp : Sp} {W : WX} {x m : Str} {p pos apos : Pos} {e o : Expr} {es : List Expr} {ta : TE} {t : TA}

theorem runs {pins : List (Addr × Obj)} {σ : St} {H : Hp} {s : Shared} {Q : VK} {us : List Value} {vs : List V} (F : FnG X.prog X.w X.K X.mg X.base k f fd ps sp) (hr : RG k X.A) (hb : Binds X.K fd ps []) (tk : Takes X W)
    (I : Inv X pins σ H s) (r : Vals vs us) (h : sp vs H Q (fun cls d H2 => W cls d σ H2)) : wpAny (model X.prog X.w) X.A (call (.ref f) us) (EP X pins σ Q) X.xe s := by
  have ln : us.length = ps.length := r.length.symm.trans (F.nargs _ _ _ _ h)
  have b := hb s us I.kIn (by simpa using ln)
  rw [List.append_nil] at b
  refine wpAny_call (codeAny_mono (F.goes X.A X.stack s H ⟨us, []⟩ us vs Q _ hr I.env0 b r h) fun q s2 hq => ?_)
  match q, hq with
  | .error e, hq => exact passAt tk σ pins H s e s2 I hq
  | .ok (.ret u), hq => exact I.after hq
  | .ok .next, hq => exact hq.elim
  | .ok .brk, hq => exact hq.elim
  | .ok .cont, hq => exact hq.elim

theorem gc (c : Cal X.prog X.w X.K X.mg X.base k x sp) (hr : RG k X.A) (tk : Takes X W) (ha : PA X (e :: es) t) (hg : Gl X x := by rfl) (hdb : (x == ("__debug__" : Str)) = false := by decide)
    (he : starEach (e :: es) X.env = (false, eval e X.env) :: starEach es X.env := by rfl) (hpl : (backTo pos (starEach es X.env)).any (·.1) = false := by rfl) : PE X (.Call (.Name x p) (e :: es) [] pos) (tG sp W t) := by
  obtain ⟨f, fd, ps, F, hm, hk, hb⟩ := c.ex
  refine ⟨fun pins s σ H Q I h => wpAny_Call_Name_kw (ld_glob I hg hm ?_ hdb)⟩
  exact PySem.W.callWith_K (h₀ := X.base) I.ok.mod.kin hk (thn (ha.run pos pins s σ H _ I h) fun us s1 ⟨vs, H1, I1, r, q⟩ => ⟨I1.kIn, runs F hr hb tk I1 r q⟩) he hpl
theorem gc0 (c : Cal X.prog X.w X.K X.mg X.base k x sp) (hr : RG k X.A) (tk : Takes X W) (hg : Gl X x := by rfl) (hdb : (x == ("__debug__" : Str)) = false := by decide) : PE X (.Call (.Name x p) [] [] pos) (tG sp W tNil) := by
  obtain ⟨f, fd, ps, F, hm, hk, hb⟩ := c.ex
  exact ⟨fun pins s σ H Q I h => wpAny_Call_Name_kw (ld_glob I hg hm (PySem.W.callWith_K0 I.kIn hk (runs (us := []) F hr hb tk I .nil h)) hdb)⟩

theorem gm {pl : Sem Bool} (c : Met X.prog X.w X.K X.mg X.base k C m sp) (hr : RG k X.A) (tk : Takes X W) (he : PE X o ta) (ha : PA X (e :: es) t)
    (hst : starEach (e :: es) X.env = (false, eval e X.env) :: starEach es X.env := by rfl) (hpl : (backTo pos (starEach es X.env)).any (·.1) = false := by rfl)
    (ht : eval (.Call (.Attribute o m apos) (e :: es) [] pos) X.env = (do let ov ← eval o X.env; standAt apos.atName; let (f, first) ← holding [ov] (getMethod ov m pl); callWith pos f first (backTo pos (starEach (e :: es) X.env)) (backToKw pos (keywordEach [] X.env))) := by rfl) :
    PE X (.Call (.Attribute o m apos) (e :: es) [] pos) (tGm C m sp W ta t) := by
  obtain ⟨f, fd, ps, cl, hm, F, hb⟩ := c.ex
  refine ⟨fun pins s σ H Q I h => PySem.W.methodCall_KW (pl := pl) (thn (he.run pins s σ H _ I h) fun u s1 ⟨x, H1, I1, rx, a, dx, fs, ex, ea, l, q⟩ => ?_) ht⟩
  subst ex
  obtain rfl : u = Value.ref a := rx
  refine getmeth_ok I1 ea cl hm l (PySem.W.callWith_K (first := [.ref a]) (h₀ := X.base) I.ok.mod.kin hm.kp (thn (ha.run pos pins s1 σ H1 _ I1 q) fun us s2 ⟨vs, H2, I2, r, q2⟩ => ⟨I2.kIn, ?_⟩) hst hpl)
  exact runs (us := .ref a :: us) (vs := .ref a :: vs) F hr hb tk I2 (.cons rfl r) q2
theorem gm0 {pl : Sem Bool} (c : Met X.prog X.w X.K X.mg X.base k C m sp) (hr : RG k X.A) (tk : Takes X W) (he : PE X o ta)
    (ht : eval (.Call (.Attribute o m apos) [] [] pos) X.env = (do let ov ← eval o X.env; standAt apos.atName; let (f, first) ← holding [ov] (getMethod ov m pl); callWith pos f first (backTo pos (starEach [] X.env)) (backToKw pos (keywordEach [] X.env))) := by rfl) :
    PE X (.Call (.Attribute o m apos) [] [] pos) (tGm C m sp W ta tNil) := by
  obtain ⟨f, fd, ps, cl, hm, F, hb⟩ := c.ex
  refine ⟨fun pins s σ H Q I h => PySem.W.methodCall_KW (pl := pl) (thn (he.run pins s σ H _ I h) fun u s1 ⟨x, H1, I1, rx, a, dx, fs, ex, ea, l, q⟩ => ?_) ht⟩
  subst ex
  obtain rfl : u = Value.ref a := rx
  exact getmeth_ok I1 ea cl hm l (PySem.W.callWith_K0 (first := [.ref a]) I1.kIn hm.kp (runs (us := [.ref a]) (vs := [.ref a]) F hr hb tk I1 (.cons rfl .nil) q))

theorem makes {pins : List (Addr × Obj)} {σ : St} {H : Hp} {s : Shared} {Q : VK} {us : List Value} {vs : List V} (M : Mk X.K C f) (F : FnG X.prog X.w X.K X.mg X.base k f fd ps sp) (hr : RG (k + 1) X.A) (hb : Binds X.K fd ps []) (tk : Takes X W)
    (I : Inv X pins σ H s) (r : Vals vs us) (h : ∀ x dx, H x = none → H dx = none → dx ≠ x → sp (.ref x :: vs) (upd (upd H dx (.own x)) x (.ins C dx [])) (fun v H2 => v = .non ∧ Q (.ref x) H2) (fun cls d H2 => W cls d σ H2)) :
    wpAny (model X.prog X.w) X.A (call (.ref C) us) (EP X pins σ Q) X.xe s := by
  have hq := h (s.heap.objs.size + 1) s.heap.objs.size (I.hok.fresh (Nat.le_succ _)) (I.hok.fresh (Nat.le_refl _)) (Nat.ne_of_lt (Nat.lt_succ_self _))
  have I2 := Inv.made (C := C) I
  have r2 : Vals (V.ref (s.heap.objs.size + 1) :: vs) (Value.ref (s.heap.objs.size + 1) :: us) := .cons rfl r
  have ln : (Value.ref (s.heap.objs.size + 1) :: us).length = ps.length := r2.length.symm.trans (F.nargs _ _ _ _ hq)
  have b := hb _ (Value.ref (s.heap.objs.size + 1) :: us) I2.kIn (by simpa using ln)
  rw [List.append_nil] at b
  refine wpAny_call (make_map (f := f) I.kIn M.makes M.init (beq_iff_eq.mp M.fn) (codeAny_mono (F.goes _ X.stack _ _ ⟨Value.ref (s.heap.objs.size + 1) :: us, []⟩ (Value.ref (s.heap.objs.size + 1) :: us) _ _ _ ⟨hr.r.make C us [], make_guards.trans hr.g⟩ (I2.env0.make C us []) b r2 hq) fun q s2 hq2 => ?_))
  match q, hq2 with
  | .error e, hq2 => exact passAt tk σ pins _ _ e s2 I2 hq2
  | .ok (.ret u), hq2 =>
    obtain ⟨v, H3, I3, rv, ev, q3⟩ := I2.after hq2
    subst ev
    exact ⟨rv, ⟨V.ref (s.heap.objs.size + 1), H3, I3, rfl, q3⟩⟩
  | .ok .next, hq2 => exact hq2.elim
  | .ok .brk, hq2 => exact hq2.elim
  | .ok .cont, hq2 => exact hq2.elim
theorem gk (c : Mak X.prog X.w X.K X.mg X.base k x C sp) (hr : RG (k + 1) X.A) (tk : Takes X W) (ha : PA X (e :: es) t) (hg : Gl X x := by rfl) (hdb : (x == ("__debug__" : Str)) = false := by decide)
    (he : starEach (e :: es) X.env = (false, eval e X.env) :: starEach es X.env := by rfl) (hpl : (backTo pos (starEach es X.env)).any (·.1) = false := by rfl) : PE X (.Call (.Name x p) (e :: es) [] pos) (tGk C sp W t) := by
  obtain ⟨f, fd, ps, M, F, hm, hb⟩ := c.ex
  refine ⟨fun pins s σ H Q I h => wpAny_Call_Name_kw (ld_glob I hg hm ?_ hdb)⟩
  exact PySem.W.callWith_K (h₀ := X.base) I.ok.mod.kin M.kp (thn (ha.run pos pins s σ H _ I h) fun us s1 ⟨vs, H1, I1, r, q⟩ => ⟨I1.kIn, makes M F hr hb tk I1 r q⟩) he hpl
theorem gk0 (c : Mak X.prog X.w X.K X.mg X.base k x C sp) (hr : RG (k + 1) X.A) (tk : Takes X W) (hg : Gl X x := by rfl) (hdb : (x == ("__debug__" : Str)) = false := by decide) : PE X (.Call (.Name x p) [] [] pos) (tGk C sp W tNil) := by
  obtain ⟨f, fd, ps, M, F, hm, hb⟩ := c.ex
  exact ⟨fun pins s σ H Q I h => wpAny_Call_Name_kw (ld_glob I hg hm (PySem.W.callWith_K0 I.kIn M.kp (makes (us := []) M F hr hb tk I .nil h)) hdb)⟩
end

/-! ### repr -/
section
variable {X : Cx}
/-! data in which an empty dict may lie, all of it tracked -/
mutual
inductive DpE (H : Hp) : V → PyData → Prop
  | non : DpE H .non .none
  | bl (b : Bool) : DpE H (.bl b) (.bool b)
  | int (i : Int) : DpE H (.int i) (.int i)
  | str (x : Str) : DpE H (.str x) (.str x)
  | emp {a : Addr} : H a = some (.dK []) → DpE H (.ref a) (.dict [])
  | lst {a : Addr} {xs : List V} {ds : List PyData} : H a = some (.lst xs) → a ≠ sysModules → DpEs H xs ds → DpE H (.ref a) (.list ds)
  | tup {a : Addr} {xs : List V} {ds : List PyData} : H a = some (.tup xs) → DpEs H xs ds → DpE H (.ref a) (.tuple ds)
inductive DpEs (H : Hp) : List V → List PyData → Prop
  | nil : DpEs H [] []
  | cons {v : V} {vs : List V} {d : PyData} {ds : List PyData} : DpE H v d → DpEs H vs ds → DpEs H (v :: vs) (d :: ds)
end
mutual
theorem DpE.reads {pins : List (Addr × Obj)} {σ : St} {H : Hp} {s : Shared} (I : Inv X pins σ H s) : ∀ (d : PyData) (v : V) (u : Value), DpE H v d → RelV v u → ∃ as, Reads s.heap u d as ∧ sysModules ∉ as
  | .none, _, _, h, r => by
    cases h
    cases r
    exact ⟨_, Reads.none, by simp⟩
  | .bool b, _, _, h, r => by
    cases h
    cases r
    exact ⟨_, Reads.bool b, by simp⟩
  | .int i, _, _, h, r => by
    cases h
    obtain ⟨t, rfl⟩ := r
    exact ⟨_, Reads.int i t, by simp⟩
  | .str x, _, _, h, r => by
    cases h
    obtain ⟨t, rfl⟩ := r
    exact ⟨_, Reads.str x t, by simp⟩
  | .list ds, _, _, h, r => by
    cases h with
    | lst hs hns ha =>
      cases r
      obtain ⟨its, rv, ⟨o, n, ho, hc, _, hd⟩, _⟩ := I.list (SqL.of (K := X.K) hs)
      obtain ⟨as, hr, hn⟩ := DpE.readsAll I ds _ its ha rv
      exact ⟨_, Reads.list ho hc hd hr, by
        rw [List.mem_cons, not_or]
        exact ⟨hns.symm, hn⟩⟩
  | .tuple ds, _, _, h, r => by
    cases h with
    | tup hs ha =>
      cases r
      obtain ⟨its, rv, ⟨o, ho, hc, n, hd⟩, _⟩ := I.tuple (SqT.of (K := X.K) hs)
      obtain ⟨as, hr, hn⟩ := DpE.readsAll I ds _ its ha rv
      exact ⟨_, Reads.tuple ho hc hd hr, hn⟩
  | .dict kvs, _, _, h, r => by
    cases h with
    | emp hs =>
      cases r
      obtain ⟨z, hm, vs, rel, dd⟩ := dk_of I.hok hs
      cases rel
      obtain ⟨o, es, ep, ho, hx, hdt, he, hp, _⟩ := dd
      have e0 : es.toList = [] := by
        cases e : es.toList with
        | nil => rfl
        | cons x y => rw [e] at hp; cases hp
      refine ⟨_, Reads.dict (kvs := []) (as := []) (bs := []) ho hx.1 hdt (by rw [e0]; exact .nil) (by rw [e0]; exact .nil), ?_⟩
      simp only [List.append_nil, List.mem_cons, List.not_mem_nil, or_false]
      exact (beq_eq_false_iff_ne.mp hm).symm
theorem DpE.readsAll {pins : List (Addr × Obj)} {σ : St} {H : Hp} {s : Shared} (I : Inv X pins σ H s) : ∀ (ds : List PyData) (vs : List V) (us : List Value), DpEs H vs ds → Vals vs us → ∃ as, ReadsAll s.heap us ds as ∧ sysModules ∉ as
  | [], _, _, h, r => by
    cases h
    cases r
    exact ⟨_, ReadsAll.nil, by simp⟩
  | d :: ds, _, _, h, r => by
    cases h with
    | cons h1 h2 =>
      cases r with
      | cons r1 r2 =>
        obtain ⟨as, q1, n1⟩ := DpE.reads I d _ _ h1 r1
        obtain ⟨bs, q2, n2⟩ := DpE.readsAll I ds _ _ h2 r2
        exact ⟨_, ReadsAll.cons q1 q2, by rw [List.mem_append, not_or]; exact ⟨n1, n2⟩⟩
end
/-- repr(v), v data: its text -/
structure Shw (K : PySem.W.Frag) (H : Hp) (v : V) (d : PyData) : Prop where
  dp : Dp K H v d ∨ DpE H v d
  ok : d.showable = true
  len : d.shown.length ≤ sizeLine
  dep : d.depth ≤ 60
def rRepr (K : PySem.W.Frag) (vs : List V) (H : Hp) (Q : VK) : Prop := ∃ v d, vs = [v] ∧ Shw K H v d ∧ Q (.str d.shown) H
mutual
theorem dp_plain {K : PySem.W.Frag} {H : Hp} : ∀ (d : PyData) (v : V), Dp K H v d → d.hasDict = false
  | .none, _, _ => by simp only [PyData.hasDict]
  | .bool _, _, _ => by simp only [PyData.hasDict]
  | .int _, _, _ => by simp only [PyData.hasDict]
  | .str _, _, _ => by simp only [PyData.hasDict]
  | .list ds, _, h => by
    cases h with
    | lst _ a => simp only [PyData.hasDict]; exact dp_plains ds _ a
  | .tuple ds, _, h => by
    cases h with
    | tup _ a => simp only [PyData.hasDict]; exact dp_plains ds _ a
  | .dict _, _, h => by cases h
theorem dp_plains {K : PySem.W.Frag} {H : Hp} : ∀ (ds : List PyData) (vs : List V), DpAll K H vs ds → PyData.hasDictAll ds = false
  | [], _, _ => by simp only [PyData.hasDictAll]
  | d :: ds, _, h => by
    cases h with
    | cons a b => simp only [PyData.hasDictAll, dp_plain d _ a, dp_plains ds _ b, Bool.or_self]
end
theorem call_repr {k : Nat} (hr : RG k X.A) : CallR X (.builtin "repr") (rRepr X.K) := by
  intro pins s σ H xs us Q I r h
  obtain ⟨v, d, rfl, ⟨hd, hs, hl, hdp⟩, q⟩ := h
  obtain ⟨u, rfl, ru⟩ := vals1 r
  have un := hr.r.units
  rcases hd with hd | hd
  rotate_left
  · cases hd with
    | non => cases ru; exact PySem.P.repr_of_none ⟨.str _, H, I.tok _, ⟨_, rfl⟩, by simpa only [PyData.shown] using q⟩
    | bl b => cases ru; exact PySem.P.repr_of_bool ⟨.str _, H, I.tok _, ⟨_, rfl⟩, by simpa only [PyData.shown] using q⟩
    | int i =>
      obtain ⟨t, rfl⟩ := ru
      exact PySem.P.repr_of_int (by simpa only [PyData.showable, decide_eq_true_eq] using hs) ⟨.str _, H, I.tok _, ⟨_, rfl⟩, by simpa only [PyData.shown] using q⟩
    | str x =>
      obtain ⟨t, rfl⟩ := ru
      exact PySem.P.repr_of_str ⟨.str _, H, I.tok _, ⟨_, rfl⟩, by simpa only [PyData.shown] using q⟩ (by simpa only [PyData.shown] using hl)
    | emp a =>
      obtain rfl := ru
      obtain ⟨as, rd, nas⟩ := DpE.reads I _ _ _ (DpE.emp a) rfl
      exact repr_of_reads' rd hs (fun _ => nas) hr.g (by omega) (fun _ _ z => z) (fun h' u tk kp => ⟨.str _, H, I.kept kp, ⟨_, rfl⟩, q⟩) hl
    | lst a n b =>
      obtain rfl := ru
      obtain ⟨as, rd, nas⟩ := DpE.reads I _ _ _ (DpE.lst a n b) rfl
      exact repr_of_reads' rd hs (fun _ => nas) hr.g (by omega) (fun _ _ z => z) (fun h' u tk kp => ⟨.str _, H, I.kept kp, ⟨_, rfl⟩, q⟩) hl
    | tup a b =>
      obtain rfl := ru
      obtain ⟨as, rd, nas⟩ := DpE.reads I _ _ _ (DpE.tup a b) rfl
      exact repr_of_reads' rd hs (fun _ => nas) hr.g (by omega) (fun _ _ z => z) (fun h' u tk kp => ⟨.str _, H, I.kept kp, ⟨_, rfl⟩, q⟩) hl
  cases hd with
  | non => cases ru; exact PySem.P.repr_of_none ⟨.str _, H, I.tok _, ⟨_, rfl⟩, by simpa only [PyData.shown] using q⟩
  | bl b => cases ru; exact PySem.P.repr_of_bool ⟨.str _, H, I.tok _, ⟨_, rfl⟩, by simpa only [PyData.shown] using q⟩
  | int i =>
    obtain ⟨t, rfl⟩ := ru
    exact PySem.P.repr_of_int (by simpa only [PyData.showable, decide_eq_true_eq] using hs) ⟨.str _, H, I.tok _, ⟨_, rfl⟩, by simpa only [PyData.shown] using q⟩
  | str x =>
    obtain ⟨t, rfl⟩ := ru
    exact PySem.P.repr_of_str ⟨.str _, H, I.tok _, ⟨_, rfl⟩, by simpa only [PyData.shown] using q⟩ (by simpa only [PyData.shown] using hl)
  | lst a b =>
    obtain rfl := ru
    have hd2 := Dp.lst a b
    obtain ⟨as, rd⟩ := Dp.reads I _ _ _ hd2 rfl
    exact repr_of_reads' rd hs (PyData.noDict_hsm (dp_plain _ _ hd2)) hr.g (by omega) (fun _ _ z => z) (fun h' u tk kp => ⟨.str _, H, I.kept kp, ⟨_, rfl⟩, q⟩) hl
  | tup a b =>
    obtain rfl := ru
    have hd2 := Dp.tup a b
    obtain ⟨as, rd⟩ := Dp.reads I _ _ _ hd2 rfl
    exact repr_of_reads' rd hs (PyData.noDict_hsm (dp_plain _ _ hd2)) hr.g (by omega) (fun _ _ z => z) (fun h' u tk kp => ⟨.str _, H, I.kept kp, ⟨_, rfl⟩, q⟩) hl
theorem pe_repr {k : Nat} {x : Str} {p pos : Pos} {e : Expr} {te : TE} (hr : RG k X.A) (hm : X.mg "repr" = none) (he : PE X e te) (hg : Gl X "repr" := by rfl)
    (hs : starEach (e :: []) X.env = (false, eval e X.env) :: starEach [] X.env := by rfl) (hpl : (backTo pos (starEach [] X.env)).any (·.1) = false := by rfl) :
    PE X (.Call (.Name "repr" p) [e] [] pos) (tCB (rRepr X.K) (tCons te tNil)) := pe_callB (call_repr hr) hg hm boot_repr (pa_cons he pa_nil hs) (by decide) (by decide) hs hpl
end
end FG

/-! GEnd: the end of a law whose def keeps its promise where the guards are known. -/
namespace FG
open PySem PySem.Spec L2
open PyProof.Rows hiding St

theorem law_runs {P : Program} {w : World} {K : PySem.W.Frag} {mg mb : Str → Option Value} {k : Nat} {fa a : Addr} {fd : FuncData} {x : Str} {sp : Sp} {s : Shared} {vs : List Value} {ns : List Int}
    (inK : K.In s.heap) (gl : s.heap.Ns mainGlobals mg) (bl : s.heap.Ns builtinsNs mb) (bb : ∀ y : Str, y ≠ "__name__" → mb y = bootBuiltins y) (nol : s.heap.NoLimit) (gens : s.gens = #[])
    (la : s.heap.get? a = some { cls := .type "list", data := .seq vs.toArray }) (li : IntsAre vs ns) (ln : ns.length ≤ sizeLine) (hr : Room k callerA)
    (F : ∀ base : Heap, K.In base → base.Ns mainGlobals mg → FnG P w K mg base k fa fd [x] sp) (bnd : ∀ (s : Shared) (u : Value), BindsTo s fd ⟨[u], []⟩ [(x, u)])
    (hsp : ∀ H : Hp, Only H → SqL K H a (ns.map V.int) → sp [.ref a] H (fun v _ => v = .bl true) fun _ _ _ => False) :
    codeAny (model P w) callerA (.call (.ref fa) ⟨[.ref a], []⟩) (fun r s' => r = .ok (.ret (.bool true)) ∧ OldK s.heap s'.heap ∧ s'.os = s.os ∧ AllBare s'.gens) s := by
  have rels := vals_ints li
  have lens := li.length
  have main : ∀ H : Hp, Only H → SqL K H a (ns.map V.int) → HOk P w H s.heap → (∀ b u, H b = some u → b = a) → (∀ u, H a = some u → K.lookup a = none) →
      codeAny (model P w) callerA (.call (.ref fa) ⟨[.ref a], []⟩) (fun r s' => r = .ok (.ret (.bool true)) ∧ OldK s.heap s'.heap ∧ s'.os = s.os ∧ AllBare s'.gens) s := by
    intro H only seq hok atA notK
    have noDict : ∀ {b : Addr} {o : Obj} {es : Array DictEntry} {ep : Nat}, s.heap.get? b = some o → o.data = .dict es ep → H b = none := by
      intro b o es ep e d
      cases q : H b with
      | none => rfl
      | some u =>
        obtain rfl := atA b u q
        rw [la] at e
        cases e
        cases (show Data.seq vs.toArray _ = Data.dict es ep from d)
    have ns2 : ∀ {b : Addr} {m : Str → Option Value}, s.heap.Ns b m → (hidT s.heap H).Ns b m := by
      rintro b m ⟨o, es, ep, e, d, r⟩
      exact ⟨o, es, ep, hidT_get e (noDict e d), d, r⟩
    have inK2 : K.In (hidT s.heap H) := by
      intro b o e
      refine hidT_get (inK b o e) ?_
      cases q : H b with
      | none => rfl
      | some u =>
        obtain rfl := atA b u q
        rw [notK u q] at e
        cases e
    have md : Mod K mg (hidT s.heap H) := by
      obtain ⟨mc, c1, c2⟩ := nol
      exact ⟨inK2, ns2 gl, ⟨mb, ns2 bl, bb⟩, mc, ns2 c1, c2⟩
    have env0 : Env0 P w K mg (hidT s.heap H) callerA [] s H :=
      ⟨rfl, md, fun b o e => of_hidT e, Nat.le_of_eq (hidT_size _ _), trivial, (fun b hb => by cases (show b ∈ ([] : List Addr) from hb)), hok, .of_eq gens⟩
    refine codeAny_mono ((F _ inK2 (ns2 gl)).goes callerA [] s H ⟨[.ref a], []⟩ [.ref a] [.ref a] _ _ ⟨hr, rfl⟩ env0 (bnd s (.ref a)) (.cons rfl .nil) (hsp H only seq)) fun r s2 hq => ?_
    match r, hq with
    | .error e, hq =>
      obtain ⟨_, _, _, _, _, _, _, _, _, _, _, _, z⟩ := hq
      exact z.elim
    | .ok .next, hq => exact hq.elim
    | .ok .brk, hq => exact hq.elim
    | .ok .cont, hq => exact hq.elim
    | .ok (.ret u), hq =>
      obtain ⟨v, H2, os, bare, un, hok2, rv, q⟩ := hq
      obtain rfl : v = .bl true := q
      obtain rfl : u = Value.bool true := rv
      refine ⟨rfl, OldK.of_keep fun b o e => ?_, os, bare⟩
      cases hb : H b with
      | none => exact un.keep b o e hb (fun z => by cases (show b ∈ ([] : List Addr) from z)) (fun z => by cases (show b ∈ ([] : List Addr) from z))
      | some y =>
        obtain z | ⟨ob, xs, z⟩ := only b
        · rw [hb] at z
          cases z
        · have e1 := (hok b _ z).1
          have e2 := (hok2 b _ (un.frzs b ob _ z)).1
          rw [e] at e1
          cases e1
          exact e2
  cases hk : K.lookup a with
  | some o =>
    have e := inK a o hk
    rw [la] at e
    cases e
    exact main (fun _ => none) (fun _ => .inl rfl) (.inr ⟨_, vs.toArray, _, hk, rfl, rfl, rfl, by rw [List.size_toArray, lens]; exact ln, by simpa using rels⟩) (fun b u z => by cases z) (fun b u z => by cases z) fun u z => by cases z
  | none =>
    let H1 : Hp := fun b => if b = a then some (.frz { cls := .type "list", data := .seq vs.toArray } (.lst (ns.map V.int))) else none
    have ha : H1 a = some (.frz { cls := .type "list", data := .seq vs.toArray } (.lst (ns.map V.int))) := if_pos rfl
    have hne : ∀ b, b ≠ a → H1 b = none := fun b hb => if_neg hb
    refine main H1 (fun b => ?_) (.inl (.inr ⟨_, ha⟩)) (fun b u z => ?_) (fun b u z => ?_) fun _ _ => hk
    · by_cases hb : b = a
      · subst hb
        exact .inr ⟨_, _, ha⟩
      · exact .inl (hne b hb)
    · by_cases hb : b = a
      · subst hb
        rw [ha] at z
        cases z
        exact ⟨la, by rw [List.length_map]; exact ln, vs, _, rels, la⟩
      · rw [hne b hb] at z
        cases z
    · by_cases hb : b = a
      · exact hb
      · rw [hne b hb] at z
        cases z

/-- the goal that a head by facts leaves -/
theorem walk_G {l : PySem.W.OpenLaw} {n k : Nat} {q : Program} {loose : List Str} {XP : (Str → Option Value) → Heap → Prop} {YP : World → Heap → Prop} {d : DefRec} {x : Str}
    (hn : l.most = some n) (hn2 : n ≤ sizeLine) (hdf : d.params.defaults = []) (hr : Room k callerA)
    (F : ∀ (w : World) (mg : Str → Option Value) (fa : Addr) (h : Heap), YP w h → h.Ns mainGlobals mg → mg d.name = some (.ref fa) →
      ∃ (K : PySem.W.Frag) (fd : FuncData) (sp : Sp), K.In h ∧ (∀ (s : Shared) (u : Value), BindsTo s fd ⟨[u], []⟩ [(x, u)]) ∧
        (∀ (H : Hp) (a : Addr) (ns : List Int), ns.length ≤ n → (∀ z ∈ ns, Builtin.Int.intBits z ≤ 1048576) → Only H → SqL K H a (ns.map V.int) → sp [.ref a] H (fun v _ => v = .bl true) fun _ _ _ => False) ∧
        ∀ base : Heap, K.In base → base.Ns mainGlobals mg → FnG l.prog w K mg base k fa fd [x] sp) :
    PySem.W.WalkO q loose XP YP l.row.toRowW d [] (fun f vs => PySem.call f vs) := by
  refine Att.attach_callB hn hdf fun w s₀ s₁ mg mb fa o pm cd doc a vs ns G Y ho hd hcd hmg hobj hints hlen bits gens => ?_
  obtain ⟨K, fd, sp, inK, hb, hsp, hF⟩ := F w mg fa _ Y G.T.g hmg
  exact law_runs inK G.T.g G.T.b G.T.builtins G.T.nolimit gens hobj hints (Nat.le_trans hlen hn2) hr hF hb fun H hO hS => hsp H a ns hlen bits hO hS

section
variable {P : Program} {w : World} {K : PySem.W.Frag} {mg : Str → Option Value} {base : Heap} {k : Nat} {x m q : Str} {st : Stmt} {f C : Addr} {ps : List Str} {sp : Sp}
theorem Cal.of (g : mg x = some (.ref f)) (F : ∃ fd, Fun K x q st f fd) (b : ∀ {fd}, Fun K x q st f fd → Binds K fd ps []) (h : ∀ {fd}, Fun K x q st f fd → FnG P w K mg base k f fd ps sp) : Cal P w K mg base k x sp :=
  let ⟨fd, z⟩ := F; ⟨f, fd, ps, h z, g, z.kp, b z⟩
theorem Met.of (c : Cls K C) (mt : Meth K C m f) (F : ∃ fd, Fun K x q st f fd) (b : ∀ {fd}, Fun K x q st f fd → Binds K fd ps []) (h : ∀ {fd}, Fun K x q st f fd → FnG P w K mg base k f fd ps sp) : Met P w K mg base k C m sp :=
  let ⟨fd, z⟩ := F; ⟨f, fd, ps, c, mt, h z, b z⟩
theorem Mak.of (M : Mk K C f) (g : mg m = some (.ref C)) (F : ∃ fd, Fun K x q st f fd) (b : ∀ {fd}, Fun K x q st f fd → Binds K fd ps []) (h : ∀ {fd}, Fun K x q st f fd → FnG P w K mg base k f fd ps sp) : Mak P w K mg base k m C sp :=
  let ⟨fd, z⟩ := F; ⟨f, fd, ps, M, h z, g, b z⟩
end
/-- a def without defaults as a Fun -/
theorem toFun {K : PySem.W.Frag} {x qual : Str} {st : Stmt} {f : Addr} {fd : FuncData} (F : FunD K x qual (defArgs st) (defBody st) (defScope st) [] [] f fd) : Fun K x qual st f fd := by
  obtain ⟨oc, od, dV, kV, doc, pm, an, cdv, ct, osl, rfl, lk, cd, dv, _⟩ := F.ex
  rcases dv with ⟨_, rfl⟩ | ⟨z, _⟩
  · exact ⟨⟨oc, od, kV, doc, pm, an, cdv, ct, osl, rfl, lk, cd⟩, F.kp⟩
  · exact absurd rfl z
end FG

/-! GK: the layer's rules, their readings told over a named written part (so that they can stand within a comprehension). -/
namespace FG
open PySem PySem.Spec L2
open PyProof.Rows hiding St
section
variable {X : Cx} {e o a b : Expr} {es : List Expr} {f name : Str} {pos apos cpos p p2 p3 : Pos} {ta te tb to : TE} {t : TA} {T id : String} {r : V → List V → Hp → VK → Prop}
theorem kfld (K : PySem.W.Frag) (he : PE X e ta) (hb : attributeBase e f X.env (eval e X.env) = eval e X.env := by rfl) (hK : X.K = K := by rfl) : PE X (.Attribute e f pos) (tFld K ta f) := by subst hK; exact pe_fld he hb
theorem kixL (K : PySem.W.Frag) (hK : X.K = K := by rfl) : IxR X (rIxL K) := by subst hK; exact ix_list
theorem kixT (K : PySem.W.Frag) (hK : X.K = K := by rfl) : IxR X (rIxT K) := by subst hK; exact ix_tup
theorem kslL (K : PySem.W.Frag) (hK : X.K = K := by rfl) : SlR X (rSlL K) := by subst hK; exact sl_list
theorem kslT (K : PySem.W.Frag) (hK : X.K = K := by rfl) : SlR X (rSlT K) := by subst hK; exact sl_tup
theorem kin (K : PySem.W.Frag) (hK : X.K = K := by rfl) : OpR X (compareOp .In) (rIn K false) := by subst hK; exact op_in_seq
theorem knotIn (K : PySem.W.Frag) (hK : X.K = K := by rfl) : OpR X (compareOp .NotIn) (rIn K true) := by subst hK; exact op_notIn_seq
theorem keqD (K : PySem.W.Frag) (hu : X.A.units + 64 < cLine) (hK : X.K = K := by rfl) : OpR X (compareOp .Eq) (rEqD K) := by subst hK; exact op_eqD hu
theorem kneD (K : PySem.W.Frag) (hu : X.A.units + 64 < cLine) (hK : X.K = K := by rfl) : OpR X (compareOp .NotEq) (rNeD K) := by subst hK; exact op_neD hu
theorem kcatT (K : PySem.W.Frag) (hK : X.K = K := by rfl) : OpR X (binaryOp .Add) (rCatT K) := by subst hK; exact op_catT
def rLenS (K : PySem.W.Frag) (xs : List V) (H : Hp) (Q : VK) : Prop := ∃ p ys, xs = [.ref p] ∧ (SqL K H p ys ∨ SqT K H p ys) ∧ Q (.int ys.length) H
theorem klen (K : PySem.W.Frag) (hK : X.K = K := by rfl) : CallR X (.builtin "len") (rLenS K) := by subst hK; exact call_len_seq
def rListOf (K : PySem.W.Frag) (xs : List V) (H : Hp) (Q : VK) : Prop := ∃ p ys, xs = [.ref p] ∧ (SqL K H p ys ∨ SqT K H p ys) ∧ ∀ l, H l = none → Q (.ref l) (upd H l (.lst ys))
theorem klist (K : PySem.W.Frag) (hK : X.K = K := by rfl) : CallR X (.type "list") (rListOf K) := by subst hK; exact call_list_of
def rTupOf (K : PySem.W.Frag) (xs : List V) (H : Hp) (Q : VK) : Prop := ∃ p ys, xs = [.ref p] ∧ ((SqL K H p ys ∧ ∀ l, H l = none → Q (.ref l) (upd H l (.tup ys))) ∨ (SqT K H p ys ∧ Q (.ref p) H))
theorem ktuple (K : PySem.W.Frag) (hK : X.K = K := by rfl) : CallR X (.type "tuple") (rTupOf K) := by subst hK; exact call_tuple_of
theorem ksum (K : PySem.W.Frag) (hc : X.calm = true := by rfl) (hK : X.K = K := by rfl) : CallR X (.builtin "sum") (rSum K) := by subst hK; exact cr_sum hc
theorem kmax (K : PySem.W.Frag) (hc : X.calm = true := by rfl) (hK : X.K = K := by rfl) : CallR X (.builtin "max") (rMax K) := by subst hK; exact cr_max hc
theorem kmin (K : PySem.W.Frag) (hc : X.calm = true := by rfl) (hK : X.K = K := by rfl) : CallR X (.builtin "min") (rMin K) := by subst hK; exact cr_min hc
theorem kany (K : PySem.W.Frag) (hc : X.calm = true := by rfl) (hK : X.K = K := by rfl) : CallR X (.builtin "any") (rAny K) := by subst hK; exact cr_any hc
theorem kall (K : PySem.W.Frag) (hc : X.calm = true := by rfl) (hK : X.K = K := by rfl) : CallR X (.builtin "all") (rAll K) := by subst hK; exact cr_all hc
theorem kisi (K : PySem.W.Frag) (hK : X.K = K := by rfl) : CallR X (.builtin "isinstance") (rIsi K) := by subst hK; exact call_isi
theorem kbm0 (K : PySem.W.Frag) (pa : PlainAttrs T) (slot : Slot T name id) (hty : typeOf (.builtin id) = pure (.type "method_descriptor")) (hm : MtR X id r) (ho : PE X o to)
    (hbase : attributeBase o name X.env (eval o X.env) = eval o X.env := by rfl) (hline : (apos.endLine == cpos.line) = true := by rfl) (hK : X.K = K := by rfl) : PE X (.Call (.Attribute o name apos) [] [] cpos) (tBM0 K T r to) := by
  subst hK; exact pe_bm0 pa slot hty hm ho hbase hline
theorem kbm (K : PySem.W.Frag) (pa : PlainAttrs T) (slot : Slot T name id) (hty : typeOf (.builtin id) = pure (.type "method_descriptor")) (hm : MtR X id r) (ho : PE X o to) (ha : PA X (e :: es) t)
    (hbase : attributeBase o name X.env (eval o X.env) = eval o X.env := by rfl)
    (hfew : ((backTo cpos (starEach (e :: es) X.env)).all (fun x => !x.1) && (backToKw cpos (keywordEach [] X.env)).all (fun x => x.1.isSome) && decide ((e :: es).length + ([] : List Keyword).length + (if ([] : List Keyword).isEmpty then 0 else 1) < 30)) = true := by rfl)
    (hline : (apos.endLine == cpos.line) = true := by rfl) (hs : starEach (e :: es) X.env = (false, eval e X.env) :: starEach es X.env := by rfl) (hpl : (backTo cpos (starEach es X.env)).any (·.1) = false := by rfl) (hK : X.K = K := by rfl) :
    PE X (.Call (.Attribute o name apos) (e :: es) [] cpos) (tBM K T r to t) := by
  subst hK; exact pe_bm pa slot hty hm ho ha hbase hfew hline hs hpl
theorem krevL (K : PySem.W.Frag) {k : Nat} {p1 : Pos} (he : PE X e te) (hK : X.K = K := by rfl) : PE X (.Subscript e (.Slice none none (some (.UnaryOp .USub (.Constant (.int 1) k p1) p2)) p3) pos) (tRevL K te) := by subst hK; exact pe_revL he
theorem kiL (K : PySem.W.Frag) {tg : Expr} (he : PE X e te) (hK : X.K = K := by rfl) : PI X tg e (iList K te) := by subst hK; exact pi_list he
theorem kiT (K : PySem.W.Frag) {tg : Expr} (he : PE X e te) (hK : X.K = K := by rfl) : PI X tg e (iTup K te) := by subst hK; exact pi_tup he
theorem kiRev (K : PySem.W.Frag) {tg : Expr} (hg : Gl X "reversed") (hm : X.mg "reversed" = none) (ha : PA X [e] t) (hs : starEach [e] X.env = [(false, eval e X.env)] := by rfl) (hK : X.K = K := by rfl) :
    PI X tg (.Call (.Name "reversed" p) [e] [] pos) (iRev K t) := by subst hK; exact pi_reversed hg hm ha hs
theorem kgT (K : PySem.W.Frag) {k n : Nat} {tgs : TGs} (hc : X.calm = true) (h : PGs X es tgs) (hn : (assignEach es X.env).length = n := by rfl) (hst : (assignEach es X.env).findIdx? (·.1) = none := by rfl) (hK : X.K = K := by rfl) :
    PG X (.Tuple es k pos) (gTup K n tgs) := by subst hK; exact pg_tup hc h hn hst
def tTru (K : PySem.W.Frag) (te : TE) : TT := fun σ H Q => te σ H fun x H1 => ∃ k, TruV K x H1 k ∧ Q k H1
theorem ktru (K : PySem.W.Frag) (ha : PE X a ta) (he : ∀ whole, isTrue a X.env whole = (do let v ← whole; standAt a.pos; holding [v] (truthy v)) := by intro _; rfl) (hK : X.K = K := by rfl) : PT X a (tTru K ta) := by subst hK; exact pt_truth ha he
theorem krepr (K : PySem.W.Frag) {k : Nat} (hr : RG k X.A) (hm : X.mg "repr" = none) (he : PE X e te) (hg : Gl X "repr" := by rfl)
    (hs : starEach (e :: []) X.env = (false, eval e X.env) :: starEach [] X.env := by rfl) (hpl : (backTo pos (starEach [] X.env)).any (·.1) = false := by rfl) (hK : X.K = K := by rfl) :
    PE X (.Call (.Name "repr" p) [e] [] pos) (tCB (rRepr K) (tCons te tNil)) := by subst hK; exact pe_callB (call_repr hr) hg hm boot_repr (pa_cons he pa_nil hs) (by decide) (by decide) hs hpl
theorem ksFld (K : PySem.W.Frag) {p' : Pos} {v : Expr} {tv : TE} (ha : PE X o to) (hv : PE X v tv) (hs : swapsWith v (some (.Attribute o f p')) pos.line X.env = pure false := by rfl) (hK : X.K = K := by rfl) : PS X (.Assign [.Attribute o f p'] v pos) (sFld K to tv f) := by subst hK; exact ps_fld ha hv hs
/-- xs == [] -/
def rEqE (K : PySem.W.Frag) : R2 := fun x y H Q => ∃ a b xs, x = .ref a ∧ y = .ref b ∧ SqL K H a xs ∧ SqL K H b [] ∧ Q (.bl xs.isEmpty) H
theorem keqE (K : PySem.W.Frag) (hu : X.A.units + 64 < cLine) (hK : X.K = K := by rfl) : OpR X (compareOp .Eq) (rEqE K) := by
  subst hK
  intro pins s σ H x y v u Q I rx ry h
  obtain ⟨a, b, xs, rfl, rfl, ha, hb, q⟩ := h
  cases (show v = Value.ref a from rx)
  cases (show u = Value.ref b from ry)
  obtain ⟨us, r1, p1, _⟩ := I.list ha
  obtain ⟨ws, r2, p2, _⟩ := I.list hb
  cases r2
  cases r1 with
  | nil => exact SeqAt.RcAt.lists (e := fun _ => true) p1.isList p2.isList rfl (by omega) (fun j h1 _ => absurd h1 (Nat.not_lt_zero j)) _ _ _ _ ⟨.bl true, H, I, rfl, q⟩
  | cons c d => exact SeqAt.RcAt.lists_lengths p1.isList p2.isList (by simp) (by omega) _ _ _ _ ⟨.bl false, H, I, rfl, q⟩
end
end FG

/-! GRepr: the texts of small data fit. -/
namespace FG
open PySem PySem.Spec L2
open PyProof.Rows hiding St
mutual
/-- numbers of at most 38 figures, signs below 16 ^ 8 -/
def okD : PyData → Bool
  | .none | .bool _ => true
  | .int i => decide (i.natAbs < 10 ^ 38)
  | .str x => x.cps.toList.all fun c => c < 16 ^ 8
  | .list xs | .tuple xs => okDs xs
  | .dict kvs => kvs.isEmpty
def okDs : List PyData → Bool
  | [] => true
  | x :: xs => okD x && okDs xs
end
theorem int_short {i : Int} (h : i.natAbs < 10 ^ 38) : (PyData.shown (.int i)).length ≤ 40 := by
  have h1 := int_text_length_le10 (a := i) (k := 38) (by decide) h
  have h2 : (PyData.shown (.int i)).length = (toString i).length := by
    show (Str.ofString (toString i)).length = _
    rw [PySem.ofString_length]
  omega
theorem log_small {i : Int} (h : i.natAbs < 10 ^ 38) : i.natAbs.log2 < 1920 := log2_small (Nat.lt_trans h (by decide +kernel))
mutual
theorem okD_leaves : ∀ d : PyData, okD d = true → d.leavesShort 40 = true ∧ d.showable = true
  | .none, _ => ⟨by simp only [PyData.leavesShort], by simp only [PyData.showable]⟩
  | .bool _, _ => ⟨by simp only [PyData.leavesShort], by simp only [PyData.showable]⟩
  | .int i, h => by
    have h2 : i.natAbs < 10 ^ 38 := by simpa only [okD, decide_eq_true_eq] using h
    exact ⟨by simp only [PyData.leavesShort, decide_eq_true_eq]; exact int_short h2, by simp only [PyData.showable, decide_eq_true_eq]; exact log_small h2⟩
  | .str x, h => ⟨by simpa only [okD, PyData.leavesShort] using h, by simp only [PyData.showable]⟩
  | .list xs, h => by
    have z := okDs_leaves xs (by simpa only [okD] using h)
    exact ⟨by simp only [PyData.leavesShort]; exact z.1, by simp only [PyData.showable]; exact z.2⟩
  | .tuple xs, h => by
    have z := okDs_leaves xs (by simpa only [okD] using h)
    exact ⟨by simp only [PyData.leavesShort]; exact z.1, by simp only [PyData.showable]; exact z.2⟩
  | .dict [], _ => ⟨by simp only [PyData.leavesShort, PyData.leavesShortKv], by simp only [PyData.showable, PyData.showableKv]⟩
  | .dict (_ :: _), h => by simp [okD] at h
theorem okDs_leaves : ∀ ds : List PyData, okDs ds = true → PyData.leavesShortAll 40 ds = true ∧ PyData.showableAll ds = true
  | [], _ => ⟨by simp only [PyData.leavesShortAll], by simp only [PyData.showableAll]⟩
  | d :: ds, h => by
    have h2 : okD d = true ∧ okDs ds = true := by simpa only [okDs, Bool.and_eq_true] using h
    have a := okD_leaves d h2.1
    have b := okDs_leaves ds h2.2
    exact ⟨by simp only [PyData.leavesShortAll, a.1, b.1, Bool.and_self], by simp only [PyData.showableAll, a.2, b.2, Bool.and_self]⟩
end
theorem shw_at {K : PySem.W.Frag} {v : V} {d : PyData} {H : Hp} (hd : Dp K H v d) (ok : okD d = true) (hb : d.bulk ≤ 300000) (hdep : d.depth ≤ 60) : Shw K H v d := by
  obtain ⟨h1, h2⟩ := okD_leaves d ok
  refine ⟨.inl hd, h2, ?_, hdep⟩
  have := PyData.shown_le_bulk 40 (by decide) d h1
  rw [sizeLine_eq]
  omega
theorem shw_atE {K : PySem.W.Frag} {v : V} {d : PyData} {H : Hp} (hd : DpE H v d) (ok : okD d = true) (hb : d.bulk ≤ 300000) (hdep : d.depth ≤ 60) : Shw K H v d := by
  obtain ⟨h1, h2⟩ := okD_leaves d ok
  refine ⟨.inr hd, h2, ?_, hdep⟩
  have := PyData.shown_le_bulk 40 (by decide) d h1
  rw [sizeLine_eq]
  omega
theorem okDs_of {ds : List PyData} (h : ∀ d ∈ ds, okD d = true) : okDs ds = true := by
  induction ds with
  | nil => simp only [okDs]
  | cons d ds ih =>
    simp only [okDs, Bool.and_eq_true]
    exact ⟨h d (by simp), ih fun x hx => h x (by simp [hx])⟩
theorem bulk_flat {ds : List PyData} (h : ∀ d ∈ ds, d.bulk = 0) : PyData.bulkAll ds = ds.length := by
  induction ds with
  | nil => simp only [PyData.bulkAll, List.length_nil]
  | cons d ds ih =>
    simp only [PyData.bulkAll, List.length_cons]
    rw [h d (by simp), ih fun x hx => h x (by simp [hx])]; omega
theorem depth_flat {ds : List PyData} (h : ∀ d ∈ ds, d.depth = 0) : PyData.depthAll ds = 0 := by
  induction ds with
  | nil => simp only [PyData.depthAll]
  | cons d ds ih =>
    simp only [PyData.depthAll]
    rw [h d (by simp), ih fun x hx => h x (by simp [hx])]; rfl
theorem shw_int {K : PySem.W.Frag} {i : Int} {H : Hp} (h : i.natAbs < 10 ^ 38) : Shw K H (.int i) (.int i) :=
  shw_at (.int i) (by simp only [okD, decide_eq_true_eq]; exact h) (by simp only [PyData.bulk]; omega) (by simp only [PyData.depth]; omega)
theorem shw_small {K : PySem.W.Frag} {i : Int} {H : Hp} (h : i.natAbs < 1000000000000) : Shw K H (.int i) (.int i) := shw_int (Nat.lt_trans h (by decide))
theorem shw_bool {K : PySem.W.Frag} {b : Bool} {H : Hp} : Shw K H (.bl b) (.bool b) :=
  shw_at (.bl b) (by simp only [okD]) (by simp only [PyData.bulk]; omega) (by simp only [PyData.depth]; omega)
theorem shw_none {K : PySem.W.Frag} {H : Hp} : Shw K H .non .none :=
  shw_at .non (by simp only [okD]) (by simp only [PyData.bulk]; omega) (by simp only [PyData.depth]; omega)
end FG

/-! GExc: own exceptions with fields: what the written part says, made and raised, caught by clauses with and without a name, asked in a suite. Own layer over HandS. -/
namespace FG
open PySem PySem.Spec L2
open PyProof.Rows hiding St

/-! ### facts -/
theorem ba2 {a b : Bool} (h : (a && b) = true) : a = true ∧ b = true := Bool.and_eq_true_iff.mp h
def oexB (K : PySem.W.Frag) (C : Addr) : Bool := (match K.lookup C with
  | some ⟨.type ty, _, .cls cd, sl⟩ => (match cd.mro, sl.toList with
    | .ref C' :: bm, [_, _, _, _, some (.builtin n), _] => decide (ty = "type") && (decide (C' = C) && (HandSPX.refsVE bm && (cd.hasDict && (!cd.hasDel && decide (n = "ValueError.__new__")))))
    | _, _ => false)
  | _ => false) && (decide (PySem.W.findIn K (.ref C) "__setattr__" = some (some (.builtin "object.__setattr__"))) && (decide (PySem.W.subIn K (.ref C) (.type "BaseException") = some true) && (decide (PySem.W.typeIn K (.ref C) = some (.type "type")) && PySem.W.keepIn K (.ref C))))
theorem oexB_ok {K : PySem.W.Frag} {C : Addr} (h : oexB K C = true) : OexC K C := by
  unfold oexB at h
  obtain ⟨h1, h⟩ := ba2 h
  obtain ⟨h2, h⟩ := ba2 h
  obtain ⟨h3, h⟩ := ba2 h
  obtain ⟨h4, h5⟩ := ba2 h
  refine ⟨?_, of_decide_eq_true h2, of_decide_eq_true h3, of_decide_eq_true h4, h5⟩
  split at h1
  · rename_i ty dd cd sl ho
    split at h1
    · rename_i C' bm k0 k1 k2 k3 n k5 hm hs
      simp only [Bool.and_eq_true, decide_eq_true_eq, Bool.not_eq_true'] at h1
      obtain ⟨rfl, rfl, hr, hd, hdel, rfl⟩ := h1
      obtain ⟨nm, bs, mro, ns, qn, hd', sn, sub, ab, col, del⟩ := cd
      dsimp only at hm hd hdel
      subst hm hd hdel
      have hsl : sl = #[k0, k1, k2, k3, some (.builtin "ValueError.__new__"), k5] := by
        obtain ⟨l⟩ := sl
        simp only at hs
        rw [hs]
      subst hsl
      exact ⟨nm, qn, ns, bs, bm, sn, sub, ab, col, dd, k0, k1, k2, k3, k5, ho, hr⟩
    · cases h1
  · cases h1
/-- what isinstance and an instance's fields ask of the class -/
def excB (K : PySem.W.Frag) (D : Addr) : Bool :=
  decide (PySem.W.findIn K (.ref D) "__getattribute__" = some (some (.builtin "BaseException.__getattribute__"))) && (decide (PySem.W.findIn K (.ref D) "__getattr__" = some none) && (decide (PySem.W.subIn K (.ref D) (.type "BaseException") = some true) &&
  (PySem.W.hasDictIn K D && (decide (PySem.W.findIn K (.ref D) "__class__" = some (some (.builtin "object.__class__"))) && (decide (PySem.W.specialIn K (.builtin "object.__class__") "__get__" = some (some (.builtin "getset_descriptor.__get__"))) &&
  (decide (PySem.W.takesIn K (.builtin "object.__class__") = some true) && decide (PySem.W.mroIn K D (.type "object") = some true)))))))
theorem excB_ok {K : PySem.W.Frag} {D : Addr} (h : excB K D = true) : ExcC K D ∧ XfC K D := by
  unfold excB at h
  obtain ⟨h1, h⟩ := ba2 h
  obtain ⟨h2, h⟩ := ba2 h
  obtain ⟨h3, h⟩ := ba2 h
  obtain ⟨h4, h⟩ := ba2 h
  obtain ⟨h5, h⟩ := ba2 h
  obtain ⟨h6, h⟩ := ba2 h
  obtain ⟨h7, h8⟩ := ba2 h
  exact ⟨⟨of_decide_eq_true h1, of_decide_eq_true h2, of_decide_eq_true h3, h4, of_decide_eq_true h5, of_decide_eq_true h6, of_decide_eq_true h7, of_decide_eq_true h8⟩, ⟨of_decide_eq_true h1, of_decide_eq_true h2, of_decide_eq_true h3, h4⟩⟩
/-- an own exception class with these fields -/
structure XC (K : PySem.W.Frag) (C : Addr) (fs : List Str) : Prop where
  o : OexC K C
  e : ExcC K C
  x : XfC K C
  no : ∀ f ∈ fs, PySem.W.findIn K (.ref C) f = some none
/-- its own __init__ -/
structure XI (K : PySem.W.Frag) (C f : Addr) : Prop where
  i : PySem.W.findIn K (.ref C) "__init__" = some (some (.ref f))
  t : PySem.W.typeIn K (.ref f) = some (.type "function")
/-- an own exception class without __init__ -/
structure X0 (K : PySem.W.Frag) (C : Addr) : Prop where
  q : PySem.W.excIn K C He.veBase "ValueError.__new__" = true
  k : PySem.W.keepIn K (.ref C) = true
  s : PySem.W.subIn K (.ref C) (.type "BaseException") = some true
  t : PySem.W.typeIn K (.ref C) = some (.type "type")
  e : ExcC K C
/-- what is told of the written part beyond the kit's facts -/
inductive Xa where
  | oex (c : Str) (fs : List Str)
  | zer (c : Str)
  | exm (c d : Str) (b : Bool)
  | isi (c d : Str) (b : Bool)
  | prop (f : PySem.W.Frag → Bool)
def Xa.ok (K : PySem.W.Frag) : Xa → Bool
  | .oex c fs => oexB K (He.ga K c) && (excB K (He.ga K c) && (fs.all (fun f => decide (PySem.W.findIn K (.ref (He.ga K c)) f = some none)) && (decide (PySem.W.findIn K (.ref (He.ga K c)) "__init__" = some (some (.ref (He.ma K (He.ga K c) "__init__")))) &&
      decide (PySem.W.typeIn K (.ref (He.ma K (He.ga K c) "__init__")) = some (.type "function")))))
  | .zer c => PySem.W.excIn K (He.ga K c) He.veBase "ValueError.__new__" && (PySem.W.keepIn K (.ref (He.ga K c)) && (decide (PySem.W.subIn K (.ref (He.ga K c)) (.type "BaseException") = some true) && (decide (PySem.W.typeIn K (.ref (He.ga K c)) = some (.type "type")) && excB K (He.ga K c))))
  | .exm c d b => decide (PySem.W.exmOne K (.ref (He.ga K c)) (.ref (He.ga K d)) = some b)
  | .isi c d b => decide (PySem.W.kitOne K (.ref (He.ga K c)) (.ref (He.ga K d)) = some b)
  | .prop f => f K
theorem oex_ok {K : PySem.W.Frag} {c : Str} {fs : List Str} (h : (Xa.oex c fs).ok K = true) : XC K (He.ga K c) fs ∧ XI K (He.ga K c) (He.ma K (He.ga K c) "__init__") := by
  obtain ⟨h1, h⟩ := ba2 h
  obtain ⟨h2, h⟩ := ba2 h
  obtain ⟨h3, h⟩ := ba2 h
  obtain ⟨h4, h5⟩ := ba2 h
  obtain ⟨e, x⟩ := excB_ok h2
  exact ⟨⟨oexB_ok h1, e, x, fun f hf => of_decide_eq_true (List.all_eq_true.mp h3 f hf)⟩, ⟨of_decide_eq_true h4, of_decide_eq_true h5⟩⟩
theorem zer_ok {K : PySem.W.Frag} {c : Str} (h : (Xa.zer c).ok K = true) : X0 K (He.ga K c) := by
  obtain ⟨h1, h⟩ := ba2 h
  obtain ⟨h2, h⟩ := ba2 h
  obtain ⟨h3, h⟩ := ba2 h
  obtain ⟨h4, h5⟩ := ba2 h
  exact ⟨h1, h2, of_decide_eq_true h3, of_decide_eq_true h4, (excB_ok h5).1⟩
theorem exm_ok {K : PySem.W.Frag} {c d : Str} {b : Bool} (h : (Xa.exm c d b).ok K = true) : PySem.W.exmOne K (.ref (He.ga K c)) (.ref (He.ga K d)) = some b := of_decide_eq_true h
theorem isi_ok {K : PySem.W.Frag} {c d : Str} {b : Bool} (h : (Xa.isi c d b).ok K = true) : PySem.W.kitOne K (.ref (He.ga K c)) (.ref (He.ga K d)) = some b := of_decide_eq_true h
theorem xa_at {K : PySem.W.Frag} {l : List Xa} (h : (l.all fun x => x.ok K) = true) (i : Nat) {x : Xa} (hx : l[i]? = some x) : x.ok K = true := List.all_eq_true.mp h x (List.mem_of_getElem? hx)

/-! ### made and raised -/
/-- what such an __init__ does: self.f1 = y1; self.f2 = y2; .. -/
def spIni (K : PySem.W.Frag) (fs : List Str) : Sp := fun vs H Q _ => ∃ (a C : Addr) (ys : List V), vs = .ref a :: ys ∧ ys.length = fs.length ∧ XC K C fs ∧ H a = some (exo a C none) ∧
  ∀ d H', H d = none → d ≠ a → H' a = some (exo a C (some d)) → H' d = some (exd d (fs.zip ys).reverse) → (∀ b, b ≠ a → b ≠ d → H' b = H b) → Q .non H'
/-- the class x, at C, may be raised with these fields -/
structure Rai (P : Program) (w : World) (K : PySem.W.Frag) (mg : Str → Option Value) (base : Heap) (x : Str) (C : Addr) (fs : List Str) : Prop where
  ex : ∃ (f : Addr) (fd : FuncData) (ps : List Str), XC K C fs ∧ XI K C f ∧ FnG P w K mg base 1 f fd ps (spIni K fs) ∧ Binds K fd ps [] ∧ mg x = some (.ref C)
theorem Rai.of {P : Program} {w : World} {K : PySem.W.Frag} {mg : Str → Option Value} {base : Heap} {x m q : Str} {C f : Addr} {fs ps : List Str} {st : Stmt} (xc : XC K C fs ∧ XI K C f) (g : mg x = some (.ref C)) (F : ∃ fd, Fun K m q st f fd)
    (b : ∀ {fd}, Fun K m q st f fd → Binds K fd ps []) (h : ∀ {fd}, Fun K m q st f fd → FnG P w K mg base 1 f fd ps (spIni K fs)) : Rai P w K mg base x C fs :=
  let ⟨fd, z⟩ := F; ⟨f, fd, ps, xc.1, xc.2, h z, b z, g⟩
section
variable {X : Cx} {x : Str} {C : Addr} {fs : List Str} {W : WX} {e : Expr} {es : List Expr} {ta : TA} {p pos pos2 : Pos}
theorem pmk_G (R : Rai X.prog X.w X.K X.mg X.base x C fs) (hr : RG 2 X.A) (tk : Takes X W) (ha : PA X (e :: es) ta) (hg : Gl X x := by rfl)
    (hdb : (x == ("__debug__" : Str)) = false := by decide) (he : starEach (e :: es) X.env = (false, eval e X.env) :: starEach es X.env := by rfl) (hpl : (backTo pos (starEach es X.env)).any (·.1) = false := by rfl) :
    PMk X (.Call (.Name x p) (e :: es) [] pos) (fun σ H Q => ta σ H fun vs H1 => vs.length = fs.length ∧ vs.length ≤ 10 ∧ ∀ d, H1 d = none → Q (.ref C) (some d) (upd H1 d (.xd (fs.zip vs).reverse))) := by
  intro pins s σ H Q I h
  obtain ⟨fI, fd, ps, xc, xi, F1, hb, hm⟩ := R.ex
  obtain ⟨nm, q, N, bs, bm, sn, sub, ab, col, dd, k0, k1, k2, k3, k5, hC, hbm⟩ := xc.o.cls
  refine wpAny_Call_Name_kw (ld_glob I hg hm ?_ hdb)
  refine PySem.W.callWith_K (h₀ := X.base) I.ok.mod.kin xc.o.kC (thn (ha.run pos pins s σ H _ I h) fun us s1 ⟨vs, H1, I1, r1, hl1, hl2, q1⟩ => ⟨I1.kIn, ?_⟩) he hpl
  show wpAny _ _ (call (.ref C) us) _ _ _
  obtain ⟨hp, g, dr, tk', os⟩ := s1
  have hsz : hp.objs.size ≤ hp.objs.size + 1 := Nat.le_succ _
  have hn : H1 (hp.objs.size + 1) = none := I1.hok.fresh hsz
  have hq : spIni X.K fs (.ref (hp.objs.size + 1) :: vs) (upd H1 (hp.objs.size + 1) (exo (hp.objs.size + 1) C none))
      (fun v H2 => v = .non ∧ ∃ (d : Addr) (fs' : List (Str × V)), H2 (hp.objs.size + 1) = some (exo (hp.objs.size + 1) C (some d)) ∧ H2 d = some (exd d fs') ∧ H1 d = none ∧ Q (.ref C) (some d) (upd (del H2 (hp.objs.size + 1)) d (.xd fs'))) (fun _ _ _ => False) := by
    refine ⟨_, C, vs, rfl, hl1, xc, upd_same, fun d H' hd hda ea ed oth => ⟨rfl, d, _, ea, ed, (upd_ne hda).symm.trans hd, ?_⟩⟩
    have hd1 : H1 d = none := (upd_ne hda).symm.trans hd
    have eH : upd (del H' (hp.objs.size + 1)) d (.xd (fs.zip vs).reverse) = upd H1 d (.xd (fs.zip vs).reverse) := by
      funext b
      by_cases hbd : b = d
      · rw [hbd, upd_same, upd_same]
      · rw [upd_ne hbd, upd_ne hbd]
        by_cases hba : b = hp.objs.size + 1
        · rw [hba, del_same, hn]
        · rw [del_ne hba, oth b hba hbd, upd_ne hba]
    rw [eH]
    exact q1 d hd1
  have kk : ∀ b o, hp.get? b = some o → ((hp.push (PySem.W.kdv_tup us)).push (PySem.HandSPX.excO C hp.objs.size)).get? b = some o := fun b o e => Heap.get?_push_of_some _ (Heap.get?_push_of_some _ e)
  have hget : ((hp.push (PySem.W.kdv_tup us)).push (PySem.HandSPX.excO C hp.objs.size)).get? (hp.objs.size + 1) = some (PySem.HandSPX.excO C hp.objs.size) := by heap_get
  have I2 : Inv X pins σ (upd H1 (hp.objs.size + 1) (exo (hp.objs.size + 1) C none)) ⟨(hp.push (PySem.W.kdv_tup us)).push (PySem.HandSPX.excO C hp.objs.size), g, dr, tk', os⟩ :=
    I1.laid (t' := tk') (a := hp.objs.size + 1) (o := exo (hp.objs.size + 1) C none) (h' := (hp.push (PySem.W.kdv_tup us)).push (PySem.HandSPX.excO C hp.objs.size)) kk hsz (exo_ok hget)
  have r2 : Vals (V.ref (hp.objs.size + 1) :: vs) (Value.ref (hp.objs.size + 1) :: us) := .cons rfl r1
  have hl : (Value.ref (hp.objs.size + 1) :: us).length = ps.length := by
    have e := r2.length
    rw [F1.nargs _ _ _ _ hq] at e
    exact e.symm
  have hus : us.length ≤ sizeLine := by
    rw [← Paired.length r1, sizeLine_eq]
    omega
  have b := hb _ (Value.ref (hp.objs.size + 1) :: us) I2.kIn (by simpa using hl)
  rw [List.append_nil] at b
  refine wpAny_call (PySem.HandSPX.call_own F.excBase_ValueError (fun Y => PySem.HandSPX.refsVE_contains Y bm hbm) (I1.kIn _ _ hC) (PySem.W.looks_findIn I1.kIn xi.i) (fun self => PySem.W.bind_fn I1.kIn self xi.t) hus
    (codeAny_mono (F1.goes _ X.stack _ _ ⟨Value.ref (hp.objs.size + 1) :: us, []⟩ (Value.ref (hp.objs.size + 1) :: us) _ _ _ ⟨hr.r.make C us [], make_guards.trans hr.g⟩ (I2.env0.make C us []) b r2 hq) fun r s' hq' => ?_))
  cases r with
  | error er => exact passes_call tk (fun _ _ _ _ z => False.elim z) pins σ _ _ er s' I2 hq'
  | ok fl =>
    cases fl with
    | ret u =>
      obtain ⟨v, H2, os2, bare2, un2, hok2, rv, ev, d, fs', ea, ed, hd1, q2⟩ := hq'
      subst ev
      obtain ⟨h2, g2, d2, t2, os'⟩ := s'
      exact ⟨rv, mk_end (raises_own xc.o.exC xc.o.tyC) I1 hsz kk un2 hok2 os2 bare2 ea ed hd1 q2⟩
    | next => exact False.elim hq'
    | brk => exact False.elim hq'
    | cont => exact False.elim hq'
/-- raise C(e, ..) -/
def tRais (C : Addr) (fs : List Str) (W : WX) (ta : TA) : TS := fun _ σ H => ta σ H fun vs H1 => vs.length = fs.length ∧ vs.length ≤ 10 ∧ ∀ d, H1 d = none → W (.ref C) (some d) σ (upd H1 d (.xd (fs.zip vs).reverse))
theorem ps_rais (R : Rai X.prog X.w X.K X.mg X.base x C fs) (hr : RG 2 X.A) (tk : Takes X W) (ha : PA X (e :: es) ta) (hc : X.calm = true := by rfl) (hg : Gl X x := by rfl)
    (hdb : (x == ("__debug__" : Str)) = false := by decide) (he : starEach (e :: es) X.env = (false, eval e X.env) :: starEach es X.env := by rfl) (hpl : (backTo pos (starEach es X.env)).any (·.1) = false := by rfl) :
    PS X (.Raise (some (.Call (.Name x p) (e :: es) [] pos)) none pos2) (tRais C fs W ta) := ps_raise hc tk (pmk_G R hr tk ha hg hdb he hpl)
/-- C(), without __init__ -/
theorem pmk_0 (q : X0 X.K C) (gC : X.mg x = some (.ref C)) (hg : Gl X x) (hdb : (x == ("__debug__" : Str)) = false := by decide) : PMk X (.Call (.Name x p) [] [] pos) (fun _ H Q => Q (.ref C) none H) := by
  intro pins s σ H Q I h
  refine wpAny_Call_Name_kw (ld_glob I hg gC ?_ hdb)
  refine PySem.W.callWith_K0 I.kIn q.k ?_
  show wpAny _ _ (call (.ref C) []) _ _ _
  obtain ⟨bm, N, nm, qn, bs, hdct, sn, sub, ab, col, dd, k0, k1, k2, k3, k5, mN, hC, hN, hni, T⟩ := exc_obj I.kIn q.q
  refine wpAny_call_exc_subT F.excBase_ValueError T hC hN hni (fun h' e hm => ?_) (by show 0 ≤ sizeLine; omega)
  exact mk_of I hm (raises_own q.s q.t) h (I.hok.gone hm.new)
def tRais0 (C : Addr) (W : WX) : TS := fun _ σ H => W (.ref C) none σ H
theorem ps_rais0 (q : X0 X.K C) (gC : X.mg x = some (.ref C)) (tk : Takes X W) (hc : X.calm = true := by rfl) (hg : Gl X x := by rfl) (hdb : (x == ("__debug__" : Str)) = false := by decide) :
    PS X (.Raise (some (.Call (.Name x p) [] [] pos)) none pos2) (tRais0 C W) := ps_raise hc tk (pmk_0 q gC hg hdb)
end

/-! ### caught: clauses with and without a name -/
abbrev Hd : Type := Value × Option Nat × (Addr → Value → Option Addr → TS)
/-- the slots behind a suite: the name is gone -/
def Ends.off (D : Ends) (i : Nat) : Ends := { nx := fun σ' H' => D.nx (σ'.set i none) H', rt := D.rt, bk := fun σ' H' => D.bk (σ'.set i none) H', ct := fun σ' H' => D.ct (σ'.set i none) H' }
def wMix (K : PySem.W.Frag) (Wout : WX) (D : Ends) : List Hd → WX
  | [] => Wout
  | (c, none, ts) :: r => fun cls d σ H => ∃ b, PySem.W.exmOne K cls c = some b ∧ if b = true then (∀ a, H a = none → ts a cls d D σ H) else wMix K Wout D r cls d σ H
  | (c, some i, ts) :: r => fun cls d σ H => ∃ b, PySem.W.exmOne K cls c = some b ∧ if b = true then (∀ a, H a = none → ts a cls d (Ends.off D i) (σ.set i (some (.ref a))) H) else wMix K Wout D r cls d σ H
inductive MixOk (X : Cx) : List ExceptHandler → List Hd → Prop
  | nil : MixOk X [] []
  | bare {x : Str} {c : Value} {ts : Addr → Value → Option Addr → TS} {b₀ : Stmt} {suite : List Stmt} {np pos' : Pos} {hds : List ExceptHandler} {l : List Hd} (hc : Names X x c)
      (hsu : ∀ (a : Addr) (oe : Obj) (cls : Value) (d : Option Addr) (pn : List (Addr × Obj)), Zc cls d oe → (∃ vs, oe.data = .fields vs) → PSs (X.suite a ((a, oe) :: pn)) (b₀ :: suite) (ts a cls d)) (r : MixOk X hds l) :
      MixOk X (.ExceptHandler (some (.Name x np)) none (b₀ :: suite) pos' :: hds) ((c, none, ts) :: l)
  | as {x n : Str} {c : Value} {i : Nat} {ts : Addr → Value → Option Addr → TS} {b₀ : Stmt} {suite : List Stmt} {np pos' : Pos} {hds : List ExceptHandler} {l : List Hd} (hc : Names X x c) (hi : X.N[i]? = some n) (hln : X.env.kindOf n = some .local)
      (hsu : ∀ (a : Addr) (oe : Obj) (cls : Value) (d : Option Addr) (pn : List (Addr × Obj)), Zc cls d oe → (∃ vs, oe.data = .fields vs) → PSs (X.suite a ((a, oe) :: pn)) (b₀ :: suite) (ts a cls d)) (r : MixOk X hds l) :
      MixOk X (.ExceptHandler (some (.Name x np)) (some n) (b₀ :: suite) pos' :: hds) ((c, some i, ts) :: l)
section
variable {X : Cx} {body : List Stmt} {h₀ : ExceptHandler} {hds : List ExceptHandler} {l : List Hd} {pos : Pos} {tb : WX → TS} {Wout : WX}
def tTry (K : PySem.W.Frag) (Wout : WX) (l : List Hd) (tb : WX → TS) : TS := fun D σ H => tb (wMix K Wout D l) D σ H
theorem ps_mix (hN : X.N.Nodup) (tk : Takes X Wout)
    (hb : ∀ (W : WX) (pn : List (Addr × Obj)) (xe : Value → Shared → Prop), Takes (X.tr pn xe) W → PassesOwn (model X.prog X.w) X.A X.env xe → PSs (X.tr pn xe) body (tb W))
    (hh : MixOk X (h₀ :: hds) l) (hs : X.stack = X.env :: X.outer := by rfl) (hf : X.env.frame = some X.env.locals := by rfl) : PS X (.Try body (h₀ :: hds) [] [] pos) (tTry X.K Wout l tb) := by
  refine ⟨fun pins s σ H D I h => ?_⟩
  have ok := I.ok
  have hfr : X.A.frames = some (X.env :: X.outer) := by rw [ok.frames, hs]
  refine wpAny_Try_except ?_
  refine wpAny_mono ((hb (wMix X.K Wout D l) (X.pn ++ pins) (fun e s₁ => wpAny (model X.prog X.w) X.A (noteFrame e X.env) (fun _ s₂ => wpAny (model X.prog X.w) X.A (setFlight e none) (fun _ s₃ =>
    wpAny (model X.prog X.w) X.A (handleBy e X.env (h₀ :: hds)) (SP X pins D) X.xe s₃) X.xe s₂) X.xe s₁) (fun u s' xx => ?_) PassesOwn.looking).run [] s σ H D (I.toTry _) h) (fun f s1 hsp => ?_) (fun e s1 he => he)
  · obtain ⟨a, B, sI, pins', σ', H', cls, d, rfl, J', nb, up, sky, na, os, ag, w⟩ := xx
    have J : Inv X pins σ' H' sI := J'.ofTry ok
    have sky' : Sky B (X.env :: X.outer) a (Zc cls d) X.env.locals s'.heap := by rw [← hs]; exact sky
    show wpAny (model X.prog X.w) X.A (noteFrame (.ref a) X.env) _ _ _
    refine Sky.land Zc.steady hfr hf sky' fun h3 fl3 up3 => ?_
    have J3 : Inv X pins σ' H' { s' with heap := h3 } := J.landed nb fl3.1 (up.trans up3) os ag
    obtain ⟨oe3, vs3, he3, hz3, hd3⟩ := fl3.there
    have notFr : ∀ {h : Heap} {o : Obj} {vs : Array Value}, h.FunFrames B (X.env :: X.outer) → h.get? a = some o → o.data = .fields vs → a ∉ frs (X.env :: X.outer) := fun {h o vs} ff e dd hm => by
      obtain ⟨_, o', e', hnf⟩ := ff.mem hm
      rw [e] at e'; cases e'
      exact hnf _ dd
    have nfr := notFr fl3.2.2.1 he3 hd3
    have nL : a ≠ X.env.locals := fun z => nfr (List.mem_filterMap.mpr ⟨X.env, List.mem_cons_self, by rw [hf, z]⟩)
    have nF : a ∉ X.fs := fun hm => by
      obtain ⟨e, he, q⟩ := List.mem_filterMap.mp hm
      exact nfr (List.mem_filterMap.mpr ⟨e, List.mem_cons_of_mem _ he, q⟩)
    have S3 := J3.suite he3 hd3 na nL nF
    have LT : PySem.W.Looks (model X.prog X.w) h3 (typeOf (.ref a)) cls := fun A Q E s k q => wpAny_typeOf_ref (k _ _ he3) (by rw [hz3.1]; exact q)
    have test : ∀ {x : Str} {c : Value} {np : Pos} {Q : Value → Shared → Prop} {E : Value → Shared → Prop}, Names X x c → Q c { s' with heap := h3 } → wpAny (model X.prog X.w) (X.A.mark (some (.ref a))) (eval (.Name x np) X.env) Q E { s' with heap := h3 } := fun {x c np Q E} hc q => by
      obtain ⟨hg, hdbg, hm | ⟨hm, hv, hnn⟩⟩ := hc
      · exact ld_glob (X := X.suite a ((a, oe3) :: (X.pn ++ pins))) S3 hg hm q hdbg
      · exact ld_blt (X := X.suite a ((a, oe3) :: (X.pn ++ pins))) S3 hg hm hv q hnn hdbg
    have go : ∀ {hds' : List ExceptHandler} {l' : List Hd}, MixOk X hds' l' → wMix X.K Wout D l' cls d σ' H' →
        wpAny (model X.prog X.w) X.A (handleBy (.ref a) X.env hds') (SP X pins D) X.xe { s' with heap := h3 } := by
      intro hds' l' hk
      induction hk with
      | nil =>
        intro w
        refine wpAny_handleBy_nil ?_
        obtain ⟨k1, k2, k3, oe, vs, T, oT, ts', he, hz, hd, h1, hr⟩ := id fl3
        unfold PySem.passOn
        refine wpAny_bind (wpAny_field he hd h1 ?_)
        rw [if_neg (show ¬ ((Value.ref T == Value.none) = true) from by simp)]
        have fin : wpAny (model X.prog X.w) X.A (setFlight (.ref a) X.env.frame) (fun _ s4 => wpAny (model X.prog X.w) X.A (throw (.ref a) : Sem Flow) (SP X pins D) X.xe s4) X.xe { s' with heap := h3 } := by
          rw [hf]
          refine HandSPX.setFlight_upZ fl3 fun h4 hh4 up4 => wpAny_throw (tk _ _ ?_)
          exact ⟨a, B, sI, pins, σ', H', cls, d, rfl, J, nb, (up.trans up3).trans up4, .inr (.inr (by rw [hs]; exact hh4)), na, os, ag, w⟩
        first
          | exact wpAny_bind (wpAny_pure (wpAny_bind fin))
          | exact wpAny_bind fin
      | @bare x c ts b₀ suite np pos' hds2 l2 hc hsu r ih =>
        intro w
        obtain ⟨b, hb1, hw⟩ := w
        refine wpAny_handleBy_cons (codeAny_handlers_test ?_) (by intro q; cases q)
        have LM := PySem.W.exm_one (M := model X.prog X.w) (J3.kIn) LT hb1
        refine test hc (LM.here ?_)
        cases b with
        | true =>
          refine codeAny_handlers_suite ?_
          refine HandSPX.lands_againZ fl3 fun h4 fl4 up4 => ?_
          have J4 : Inv X pins σ' H' { s' with heap := h4 } := J.landed nb fl4.1 ((up.trans up3).trans up4) os ag
          obtain ⟨oe4, vs4, he4, hz4, hd4⟩ := fl4.there
          have S4 := J4.suite he4 hd4 na nL nF
          refine wpAny_mono ((hsu a oe4 cls d (X.pn ++ pins) hz4 ⟨_, hd4⟩).run [] _ _ H' _ S4 (hw a na)) (fun f s6 hsp => ?_) (fun _ _ z => False.elim z)
          cases f with
          | next =>
            obtain ⟨σ6, H6, S6, q6⟩ := hsp
            exact ⟨_, _, S6.unsuite ok, q6⟩
          | brk =>
            obtain ⟨σ6, H6, S6, q6⟩ := hsp
            exact ⟨_, _, S6.unsuite ok, q6⟩
          | cont =>
            obtain ⟨σ6, H6, S6, q6⟩ := hsp
            exact ⟨_, _, S6.unsuite ok, q6⟩
          | ret u =>
            obtain ⟨v6, σ6, H6, S6, r6, q6⟩ := hsp
            exact ⟨_, _, _, S6.unsuite ok, r6, q6⟩
        | false =>
          show wpAny _ X.A (handleBy (.ref a) X.env hds2) _ _ _
          exact ih hw
      | @as x n c i ts b₀ suite np pos' hds2 l2 hc hi hln hsu r ih =>
        intro w
        obtain ⟨b, hb1, hw⟩ := w
        have hloc : Loc X.env.scope n := .inl hln
        refine wpAny_handleBy_cons (codeAny_handlers_test ?_) (by intro q; cases q)
        have LM := PySem.W.exm_one (M := model X.prog X.w) (J3.kIn) LT hb1
        refine test hc (LM.here ?_)
        cases b with
        | true =>
          refine codeAny_handlers_suite_as ?_
          refine HandSPX.lands_againZ fl3 fun h4 fl4 up4 => ?_
          have J4 : Inv X pins σ' H' { s' with heap := h4 } := J.landed nb fl4.1 ((up.trans up3).trans up4) os ag
          obtain ⟨oe4, vs4, he4, hz4, hd4⟩ := fl4.there
          have S4 := J4.suite he4 hd4 na nL nF
          refine store_ok (X := X.suite a ((a, oe4) :: (X.pn ++ pins))) (v := .ref a) S4 hN hi hloc rfl (fun s5 S5 => ?_) (.inr hln)
          refine wpAny_mono ((hsu a oe4 cls d (X.pn ++ pins) hz4 ⟨_, hd4⟩).run [] s5 _ H' _ S5 (hw a na)) (fun f s6 hsp => ?_) (fun _ _ z => False.elim z)
          have end_ : ∀ {σ6 : St} {H6 : Hp} {Q : Shared → Prop}, Inv (X.suite a ((a, oe4) :: (X.pn ++ pins))) [] σ6 H6 s6 → (∀ s7, Inv X pins (σ6.set i none) H6 s7 → Q s7) →
              wpAny (model X.prog X.w) X.A (do bindName X.env n .none; unbindBehindTheSuite X.env n pos') (fun _ s7 => Q s7) X.xe s6 := fun {σ6 H6 Q} S6 hq => gone_ok (S6.unsuite ok) hN hi hln hq
          cases f with
          | next =>
            obtain ⟨σ6, H6, S6, q6⟩ := hsp
            exact end_ S6 fun s7 J7 => ⟨_, _, J7, q6⟩
          | brk =>
            obtain ⟨σ6, H6, S6, q6⟩ := hsp
            exact end_ S6 fun s7 J7 => ⟨_, _, J7, q6⟩
          | cont =>
            obtain ⟨σ6, H6, S6, q6⟩ := hsp
            exact end_ S6 fun s7 J7 => ⟨_, _, J7, q6⟩
          | ret u =>
            obtain ⟨v6, σ6, H6, S6, r6, q6⟩ := hsp
            exact end_ S6 fun s7 J7 => ⟨_, _, _, J7, r6, q6⟩
        | false =>
          show wpAny _ X.A (handleBy (.ref a) X.env hds2) _ _ _
          exact ih hw
    exact go hh w
  · cases f with
    | next =>
      obtain ⟨σ', H', J', q⟩ := hsp
      exact wpAny_execs_nil ⟨σ', H', J'.ofTry ok, q⟩
    | brk =>
      obtain ⟨σ', H', J', q⟩ := hsp
      exact ⟨σ', H', J'.ofTry ok, q⟩
    | cont =>
      obtain ⟨σ', H', J', q⟩ := hsp
      exact ⟨σ', H', J'.ofTry ok, q⟩
    | ret u =>
      obtain ⟨v, σ', H', J', r, q⟩ := hsp
      exact ⟨v, σ', H', J'.ofTry ok, r, q⟩
end

/-! ### asked in a suite -/
/-- isinstance(e, c) -/
def rIsX (K : PySem.W.Frag) (a : Addr) (cls : Value) (d : Option Addr) : List V → Hp → VK → Prop := fun xs H Q => ∃ (D : Addr) (c : V) (cv : Value) (b : Bool), xs = [.ref a, c] ∧ cls = .ref D ∧ ExcC K D ∧ (∀ u, RelV c u → u = cv) ∧ PySem.W.kitOne K (.ref D) cv = some b ∧
  (∀ dd, d = some dd → ∃ fs, H dd = some (.xd fs)) ∧ Q (.bl b) H
theorem call_isX {X : Cx} {a : Addr} {oe : Obj} {cls : Value} {d : Option Addr} {pn : List (Addr × Obj)} (hz : Zc cls d oe) (hf : ∃ vs, oe.data = .fields vs) : CallR (X.suite a ((a, oe) :: pn)) (.builtin "isinstance") (rIsX X.K a cls d) := by
  intro pins s σ H xs us Q I r h
  obtain ⟨D, c, cv, b, rfl, rfl, C, hcv, e, hdd, q⟩ := h
  cases r with
  | cons rx rr =>
    cases rr with
    | cons rt rr =>
      cases rr
      cases rx
      have ec := hcv _ rt
      subst ec
      obtain ⟨hget, _⟩ := I.pin (a, oe) (List.mem_append.mpr (.inl List.mem_cons_self))
      obtain ⟨vs, hv⟩ := hf
      have hcl : (PySem.W.clsIn X.K D).isSome = true := by
        have h := C.hd
        unfold PySem.W.hasDictIn at h
        cases q : PySem.W.clsIn X.K D with
        | some _ => rfl
        | none => rw [q] at h; cases h
      have go : ∀ {od : Option Obj}, PySem.W.InstAt s.heap a oe D od → _ := fun {od} J =>
        PySem.W.kia_one (prog := X.prog) (w := X.w) (A := (X.suite a ((a, oe) :: pn)).A) (E := (X.suite a ((a, oe) :: pn)).xe) (Q := EP (X.suite a ((a, oe) :: pn)) pins σ Q) (PySem.W.kitx_exc (od := od) hcl C.hg C.hk C.hs C.ha C.hn C.ht C.hm) I.kIn J e (fun z => nomatch z) fun tk => ⟨.bl b, H, I.kept (t' := tk) fun _ _ z => z, rfl, q⟩
      cases d with
      | none => exact go (od := none) ⟨hget, hz.1, by unfold PySem.W.notCls; rw [hv] <;> rfl, by rw [hz.2]; trivial⟩
      | some dd =>
        obtain ⟨fs, ed⟩ := hdd dd rfl
        have hx : ObjOk X.prog X.w H s.heap dd (.xd fs) := I.hok dd _ ed
        obtain ⟨mA, ⟨od, _, _, ho, _⟩, _⟩ := hx
        exact go (od := some od) ⟨hget, hz.1, by unfold PySem.W.notCls; rw [hv] <;> rfl, by rw [hz.2]; exact ho⟩
/-- e.f -/
def tXg (K : PySem.W.Frag) (a : Addr) (cls : Value) (d : Option Addr) (f : Str) (te : TE) : TE := fun σ H Q => te σ H fun x H1 => x = .ref a ∧ ∃ (C dd : Addr) (fs : List Str) (kvs : List (Str × V)) (v : V), cls = .ref C ∧ XC K C fs ∧ f ∈ fs ∧ d = some dd ∧ H1 dd = some (.xd kvs) ∧ kvs.lookup f = some v ∧ Q v H1
theorem pe_xg {X : Cx} {a : Addr} {oe : Obj} {cls : Value} {d : Option Addr} {pn : List (Addr × Obj)} {e : Expr} {te : TE} {pos : Pos} {n : Str}
    (hz : Zc cls d oe) (hf : ∃ vs, oe.data = .fields vs) (he : PE (X.suite a ((a, oe) :: pn)) e te) (hb : attributeBase e n X.env (eval e X.env) = eval e X.env := by rfl) :
    PE (X.suite a ((a, oe) :: pn)) (.Attribute e n pos) (tXg X.K a cls d n te) := by
  refine ⟨fun pins s σ H Q I h => ?_⟩
  refine attr_of hb (thn (he.run pins s σ H _ I h) fun u s1 hh => ?_)
  obtain ⟨x, H1, I1, rx, ex, C, dd, fs, kvs, v, ec, xc, hm, ed, ea, l, q⟩ := hh
  subst ex
  obtain rfl : u = Value.ref a := rx
  subst ec
  subst ed
  obtain ⟨ha, _⟩ := I1.pin (a, oe) (List.mem_append_left _ List.mem_cons_self)
  obtain ⟨vs, hd⟩ := hf
  have hx : ObjOk X.prog X.w H1 s1.heap dd (.xd kvs) := I1.hok dd _ ea
  obtain ⟨mA, hns, hr⟩ := hx
  obtain ⟨od, ho, hl⟩ := lookIn_ns hns
  obtain ⟨u, hu, ru⟩ := RelO.some_of (v := v) (o := mA n) (by rw [← l]; exact hr n)
  have J : PySem.W.InstAt s1.heap a oe C (some od) := ⟨ha, hz.1, by unfold PySem.W.notCls; rw [hd] <;> rfl, by rw [hz.2]; exact ho⟩
  exact HandSPX.exc_get I1.kIn J xc.x.ga xc.x.gg xc.x.exC (PySem.W.findObj_own xc.x.hdC (xc.no n hm) rfl (by rw [hl, hu])) (handed_of ru) ⟨v, H1, I1.tok _, ru, q⟩
/-- what leaves a def -/
theorem tkE {P : Program} {w : World} {K : PySem.W.Frag} {mg : Str → Option Value} {base : Heap} {N : List Str} {qual : Str} {sc : Scope} {f : Addr} {cdv : Value} {A : Around} {outer : List Env} {s : Shared} {H : Hp} {E : XK} :
    Takes (cxOf (L2.CX P w) P w K mg base N qual sc f cdv A outer s H E) (fun cls d _ H => E cls d H) := takes_of rfl rfl rfl rfl
/-! ### the Hook: the kit's facts, one Bool more, and the statics among what is read -/
def frY (g : Addr → Option Obj) (n : Nat) : PySem.W.Frag := He.frT g (cStatics :: He.asD g n)
def obsY (n : Nat) (fa : List He.Fa) (fn : List He.DefD) (ex : PySem.W.Frag → Bool) (g : Addr → Option Obj) : He.AlD × Bool := (He.obsD fa fn (frY g n), ex (frY g n))
def hookY (n : Nat) (fa : List He.Fa) (fn : List He.DefD) (ex : PySem.W.Frag → Bool) : PySem.W.Hook where
  α := He.AlD × Bool
  obs := fun s => obsY n fa fn ex s.heap.get?
  val := fun _ => (He.valD fn, true)
  says := fun _ h => ∃ K : PySem.W.Frag, K.In h ∧ He.SaysD fa fn K ∧ ex K = true
  of := fun _ _ e => ⟨_, He.frT_in, congrArg Prod.fst e, congrArg Prod.snd e⟩
  keeps := fun _ _ _ ⟨K, hK, c⟩ k => ⟨K, PySem.W.Frag.In.keeps hK k, c⟩
theorem obsY_eq {n : Nat} {fa : List He.Fa} {fn : List He.DefD} {ex : PySem.W.Frag → Bool} {g : Addr → Option Obj} {s : Shared} (h : ∀ a, g a = s.heap.get? a) : obsY n fa fn ex g = (hookY n fa fn ex).obs s := by
  have e : g = s.heap.get? := funext h
  rw [e] <;> rfl
end FG

/-! GHo: C.m(self, ..) of an own class; d.pop(t) of a dict with tuple keys; d.values() of such a (locked) dict. Own layer over HandS. -/
namespace FG
open PySem PySem.Spec L2
open PyProof.Rows hiding St

/-! ### C.m(e, ..) -/
/-- what the written part says: C.m is the def at f -/
structure UnbK (K : PySem.W.Frag) (C : Addr) (m : Str) (f : Addr) : Prop where
  r : PySem.W.readsIn K C (.type "type") = true
  e : PySem.W.findCls K (.ref C) (.type "type") m = some (.val (.ref f))
  t : PySem.W.typeIn K (.ref C) = some (.type "type")
def unbB (K : PySem.W.Frag) (C : Addr) (m : Str) (f : Addr) : Bool := PySem.W.readsIn K C (.type "type") && ((match PySem.W.findCls K (.ref C) (.type "type") m with
  | some (.val v) => decide (v = .ref f)
  | _ => false) && decide (PySem.W.typeIn K (.ref C) = some (.type "type")))
theorem unbB_ok {K : PySem.W.Frag} {C f : Addr} {m : Str} (h : unbB K C m f = true) : UnbK K C m f := by
  unfold unbB at h
  obtain ⟨h1, h⟩ := ba2 h
  obtain ⟨h2, h3⟩ := ba2 h
  refine ⟨h1, ?_, of_decide_eq_true h3⟩
  split at h2
  · rename_i v e
    rw [e, of_decide_eq_true h2]
  · cases h2
theorem getm_cls {prog : Program} {w : World} {A : Around} {E : Value → Shared → Prop} {s : Shared} {K : PySem.W.Frag} {C f : Addr} {m : Str} {pl : Sem Bool} {Q : Value × List Value → Shared → Prop} (X : K.In s.heap) (t : UnbK K C m f)
    (h : Q (.ref f, []) { s with toks := s.toks + 1 }) : wpAny (model prog w) A (getMethod (.ref C) m pl) Q E s := by
  have L0 : PySem.W.Looks (model prog w) s.heap (typeOf (.ref C)) (.type "type") := PySem.W.looks_typeIn X t.t
  have hg : PySem.W.findIn K (.type "type") "__getattribute__" = some (some (.builtin "type.__getattribute__")) := by
    have := t.r
    simp only [PySem.W.readsIn, Bool.and_eq_true, beq_iff_eq] at this
    exact this.1.1.2
  unfold getMethod specialOf
  refine wpAny_bind (wpAny_bind (L0.here ((PySem.W.looks_findIn X hg).here ?_)))
  dsimp only
  rw [if_pos PySem.W.canon_tga]
  refine wpAny_bind (wpAny_mono (Q := fun v => Q (v, [])) (E := E) ?_ (fun _ _ z => wpAny_pure z) fun _ _ z => z)
  exact PySem.W.cls_value X t.r t.e rfl h
/-- C.m of the module keeps sp -/
structure Unb (P : Program) (w : World) (K : PySem.W.Frag) (mg : Str → Option Value) (base : Heap) (k : Nat) (x m : Str) (sp : Sp) : Prop where
  ex : ∃ (C f : Addr) (fd : FuncData) (ps : List Str), UnbK K C m f ∧ FnG P w K mg base k f fd ps sp ∧ Binds K fd ps [] ∧ mg x = some (.ref C) ∧ PySem.W.keepIn K (.ref f) = true
theorem Unb.of {P : Program} {w : World} {K : PySem.W.Frag} {mg : Str → Option Value} {base : Heap} {k : Nat} {x m n q : Str} {C f : Addr} {ps : List Str} {st : Stmt} {sp : Sp} (u : UnbK K C m f) (g : mg x = some (.ref C)) (F : ∃ fd, Fun K n q st f fd)
    (b : ∀ {fd}, Fun K n q st f fd → Binds K fd ps []) (h : ∀ {fd}, Fun K n q st f fd → FnG P w K mg base k f fd ps sp) : Unb P w K mg base k x m sp :=
  let ⟨fd, z⟩ := F; ⟨C, f, fd, ps, u, h z, b z, g, z.kp⟩
section
variable {X : Cx} {k : Nat} {sp : Sp} {W : WX} {x m : Str} {np pos apos : Pos} {e : Expr} {es : List Expr} {t : TA}
theorem gu {pl : Sem Bool} (c : Unb X.prog X.w X.K X.mg X.base k x m sp) (hr : RG k X.A) (tk : Takes X W) (ha : PA X (e :: es) t) (hg : Gl X x := by rfl) (hdb : (x == ("__debug__" : Str)) = false := by decide)
    (hst : starEach (e :: es) X.env = (false, eval e X.env) :: starEach es X.env := by rfl) (hpl : (backTo pos (starEach es X.env)).any (·.1) = false := by rfl)
    (ht : eval (.Call (.Attribute (.Name x np) m apos) (e :: es) [] pos) X.env = (do let ov ← eval (.Name x np) X.env; standAt apos.atName; let (f, first) ← holding [ov] (getMethod ov m pl); callWith pos f first (backTo pos (starEach (e :: es) X.env)) (backToKw pos (keywordEach [] X.env))) := by rfl) :
    PE X (.Call (.Attribute (.Name x np) m apos) (e :: es) [] pos) (tG sp W t) := by
  obtain ⟨C, f, fd, ps, u, F, hb, hm, hk⟩ := c.ex
  refine ⟨fun pins s σ H Q I h => PySem.W.methodCall_KW (pl := pl) (ld_glob I hg hm ?_ hdb) ht⟩
  refine getm_cls I.kIn u ?_
  have I2 : Inv X pins σ H { s with toks := s.toks + 1 } := I.tok _
  refine PySem.W.callWith_K (first := []) (h₀ := X.base) I2.ok.mod.kin hk (thn (ha.run pos pins { s with toks := s.toks + 1 } σ H _ I2 h) fun us s2 ⟨vs, H2, I3, r, q2⟩ => ⟨I3.kIn, ?_⟩) hst hpl
  exact runs F hr hb tk I3 r q2
end

/-! ### d.pop(t), t there -/
def rPopT1 : V → List V → Hp → VK → Prop := fun x xs H Q => ∃ (a : Addr) (kvs : List (List L2.Key × V)) (k : List L2.Key) (b : Addr) (v : V), x = .ref a ∧ xs = [.ref b] ∧ H a = some (.dT kvs) ∧ H b = some (.tup (k.map kV)) ∧
  valV kvs k = some v ∧ Q v (upd H a (.dT (dropK kvs k)))
theorem mt_popT1 {X : Cx} (hu : X.A.units + 1 < cLine) : MtR X "dict.pop" rPopT1 := by
  intro pins s σ H x xs v us Q I rx rxs h
  obtain ⟨a, kvs, k, b, v0, rfl, rfl, ha, hb, hv, q⟩ := h
  cases rx
  rw [Vals.ref1 rxs]
  obtain ⟨z, hd, xs', rel, dd⟩ := dt_of I.hok ha
  have hz : xs'.length ≤ sizeLine := by rw [← Paired.length rel]; exact z
  have r := rel.val k
  rw [hv] at r
  obtain ⟨p, hp, rv⟩ : ∃ p, atKey xs' k = some p ∧ RelV v0 p.2 := by
    cases ev : atKey xs' k with
    | none => rw [ev] at r; exact (show False from r).elim
    | some p => rw [ev] at r; exact ⟨p, rfl, r⟩
  refine call_pop_heap (knd := tupleKind (mixKind X.prog X.w)) (k := k) (.inl rfl) (PySem.F.args_dict_pop_2 _ _) (tupleKind_room_in1 hu) (key_of I.hok hb) hd dd hp (fun h' dd' hs => ?_) hz
  obtain ⟨o, es, ep, hq, h2, h3, h4, _, h5⟩ := dd'
  have I2 : Inv X pins σ (upd H a (.dT (dropK kvs k))) { s with heap := h', toks := s.toks + (tupleKind (mixKind X.prog X.w)).draws k } :=
    d_write I (by rw [ha]; exact True.intro) hs ⟨o, hq⟩ ⟨Nat.le_trans (dropK_le kvs k) z, hd, _, (L2.DX.KT_drop k rel).keeps (fun c ys ec => (by rw [upd_ne (ne_of ec ha (fun z => nomatch z))]; exact ec)), o, es, ep, hq, h2, h3, h4, h5⟩
  exact ⟨v0, _, I2, rv, q⟩

/-! ### for v in d.values(), d locked, its keys tuples -/
def Itvt (d : Addr) (o : Obj) (kvs : List (List L2.Key × V)) : It :=
  ⟨fun i H => H d = some (.frz o (.dT kvs)) ∧ i < kvs.length, fun i H x H' => H' = H ∧ ∃ k, kvs[i]? = some (k, x), fun i H => H d = some (.frz o (.dT kvs)) ∧ kvs.length ≤ i⟩
def iValsT (td : TE) : TI := fun σ H R => td σ H fun x H1 => ∃ d o kvs, x = .ref d ∧ H1 d = some (.frz o (.dT kvs)) ∧ R (Itvt d o kvs) H1
section
variable {X : Cx} {pins : List (Addr × Obj)} {σ : St} {H : Hp} {s : Shared} {d : Addr} {o : Obj}
theorem frzTv {kvs : List (List L2.Key × V)} (I : Inv X pins σ H s) (h : H d = some (.frz o (.dT kvs))) :
    (d == sysModules) = false ∧ s.heap.get? d = some o ∧ o.ExactDict ∧ ∃ (es : Array DictEntry) (ep : Nat), o.data = .dict es ep ∧ es.size = kvs.length ∧
      ∀ (i : Nat) (k : List L2.Key) (v : V), kvs[i]? = some (k, v) → ∃ en : DictEntry, es[i]? = some en ∧ RelV v en.val := by
  obtain ⟨hd, z, hs, xs, pr, o', es, ep, ho, hx, hdt, he, _⟩ := I.hok d _ h
  rw [hd] at ho
  cases ho
  refine ⟨hs, hd, hx, es, ep, hdt, ?_, fun i k v e => ?_⟩
  · have l1 : es.size = xs.length := size_of_entries he
    have l2 : kvs.length = xs.length := Paired.length pr
    omega
  · obtain ⟨b, hb, e1, e2, e3⟩ := paired_get pr e
    have q := entry_at he i
    rw [hb] at q
    exact ⟨_, q, e3⟩
theorem ep_eq {o : Obj} {es es' : Array DictEntry} {ep ep' : Nat} (h : o.data = .dict es ep) (h' : o.data = .dict es' ep') : es = es' ∧ ep = ep' := by
  rw [h] at h'; cases h'; exact ⟨rfl, rfl⟩
theorem turn_valsT {P : Program} {w : World} {K : PySem.W.Frag} {tg : Expr} {es : Array DictEntry} {ep : Nat} {kvs : List (List L2.Key × V)} (it : Addr) (hod : o.data = .dict es ep) : Turn P w K tg (Itvt d o kvs) [it] it (fun i h => h.get? it = some (DVw.valOb d i kvs.length ep)) where
  mem := by simp
  obj := fun i h st b hb => by
    have e : b = it := by simpa using hb
    subst e
    exact ⟨_, st, fun v z => by cases z⟩
  keep := fun i h h' st k => k it (by simp) _ st
  item := by
    intro X hP hw hK hc i pins s σ H E I hf st hg
    subst hP hw hK
    obtain ⟨hd, hi⟩ := hg
    obtain ⟨f0, f1, f2, f3, f4, f5⟩ := hf it (by simp)
    obtain ⟨hs, hgd, hx, es', ep', hdt, hsz, ent⟩ := frzTv I hd
    obtain ⟨rfl, rfl⟩ := ep_eq hod hdt
    obtain ⟨⟨k, v⟩, hkv⟩ : ∃ p, kvs[i]? = some p := ⟨kvs[i], List.getElem?_eq_getElem hi⟩
    obtain ⟨en, hen, rv⟩ := ent i k v hkv
    refine DVw.val_item st hgd hdt hsz hen fun h' st' sb => ?_
    have I1 : Inv X pins σ H { s with heap := h' } := I.turned (t' := s.toks) (fun b ob hb e => (sb.2 b hb).trans e) f0 f1 f3 f4 f5
    exact ⟨en.val, rfl, go_of (s := { s with heap := h' }) st' rfl rfl (by decide) ⟨v, H, I1, rv, ⟨rfl, k, hkv⟩, st', fun b hb => (hf b hb).1⟩⟩
  done := by
    intro X hP hw hK hc i pins s σ H E I hf st hg
    subst hP hw hK
    obtain ⟨hd, hi⟩ := hg
    obtain ⟨f0, f1, f2, f3, f4, f5⟩ := hf it (by simp)
    obtain ⟨hs, hgd, hx, es', ep', hdt, hsz, ent⟩ := frzTv I hd
    obtain ⟨rfl, rfl⟩ := ep_eq hod hdt
    exact DVw.val_end (I.ok.hd hc) st hgd hdt hsz (Array.getElem?_eq_none (by omega)) fun h' eb => ⟨rfl, I.turned (t' := s.toks) (fun b ob hb e => eb b ob hb e) f0 f1 f3 f4 f5⟩
  self := fun A i s Q E st h => wpAny_pyIter_valiter (d := d) (i := i) (n := kvs.length) (ep := ep) ⟨_, st, rfl, rfl⟩ h
theorem meetsVals {prog : Program} {w : World} {d : Addr} {es : Array DictEntry} {ep : Nat} (hd : (d == sysModules) = false) :
    MeetsIn prog w (Builtin.«dict.values» ⟨[.ref d], []⟩) (fun _ R s => DT.Raw s.heap d es ep ∧
      R (.ok (.ret (.ref s.heap.objs.size))) { s with heap := s.heap.push { cls := .type "dict_values", data := .fields #[.ref d] } }) :=
  .of_wp fun A R s ⟨hm, h⟩ => by
    show wpAny _ _ (Builtin.Dict.noArgs "values" ⟨[.ref d], []⟩ >>= _) _ _ s
    refine wpAny_bind ?_
    unfold Builtin.Dict.noArgs
    refine wpAny_bind (wpAny_notOrdered_dict hm.typeIs ?_)
    show wpAny _ _ (pure d) _ _ s
    refine wpAny_pure ?_
    show wpAny _ _ (Builtin.Dict.showsAll d >>= _) _ _ s
    unfold Builtin.Dict.showsAll
    rw [if_neg (by rw [hd]; exact Bool.false_ne_true)]
    refine wpAny_bind (wpAny_pure ?_)
    exact wpAny_bind (wpAny_newObj_type (wpAny_pure ⟨_, rfl, h⟩))
end
theorem pi_valuesT {X : Cx} {tg e : Expr} {td : TE} {apos cpos : Pos} (he : PE X e td) (hbase : attributeBase e "values" X.env (eval e X.env) = eval e X.env := by rfl) (hline : (apos.endLine == cpos.line) = true := by rfl) : PI X tg (.Call (.Attribute e "values" apos) [] [] cpos) (iValsT td) := by
  refine ⟨fun pins s σ H R I h => ?_⟩
  refine wpAny_Call_method (T := "dict") (id := "dict.values") hbase rfl hline F.plainAttrs_dict F.slot_dict_values F.type_dict_values (thn (he.run pins s σ H _ I h) fun u s1 ⟨x, H1, I1, rx, d, o, kvs, ex, hd, q⟩ => ?_)
  subst ex
  obtain rfl : u = Value.ref d := rx
  obtain ⟨hs, hgd, hx, es, ep, hdt, hsz, ent⟩ := frzTv I1 hd
  have hm : DT.Raw s1.heap d es ep := ⟨o, hgd, hx, hdt⟩
  refine ⟨hm.typeIs, (fun b e => by injection e with e; subst e; exact ⟨o, hgd, hx.2.1⟩), ?_⟩
  have I2 : Inv X pins σ H1 { s1 with heap := s1.heap.push { cls := .type "dict_values", data := .fields #[.ref d] } } := I1.kept (t' := s1.toks) fun b ob q => Heap.get?_push_of_some _ q
  have fin : wpAny (model X.prog X.w) X.A (pyIter (.ref s1.heap.objs.size)) (PIE X pins σ tg R) X.xe { s1 with heap := s1.heap.push { cls := .type "dict_values", data := .fields #[.ref d] } } := by
    refine DSub.iter_vals (a := d) (es := es) (ep := ep) (ob := o) (Heap.get?_push_size _ rfl) (Heap.get?_push_of_some _ hgd) hdt ?_
    rw [hsz]
    exact pi_one (tk := s1.toks) I2 _ (turn_valsT _ hdt) (Heap.get?_push_size _ rfl) q
  show wpAny _ _ (callWith cpos (.builtin "dict.values") [.ref d] [] []) _ X.xe s1
  exact method_meetsIn F.slot_dict_values F.entry_dict_values rfl (PySem.evalArgs_none ⟨rfl, hm.typeIs, F.args_dict_values_1 _, _, meetsVals (es := es) (ep := ep) hs, hm, fin⟩)
theorem walk_valsT {d : Addr} {o : Obj} {kvs : List (List L2.Key × V)} : Walk (Itvt d o kvs) kvs.length (fun H => H d = some (.frz o (.dT kvs))) (fun i H x H' => H' = H ∧ ∃ k, kvs[i]? = some (k, x)) :=
  ⟨fun _ _ hi q => ⟨q, hi⟩, fun _ q => ⟨q, Nat.le_refl _⟩, fun _ _ _ _ _ _ y => y⟩
/-! ### xs[a:b:c] -/
def tSl3 (K : PySem.W.Frag) (te : TE) (tl th ts : TO) : TE := fun σ H Q => te σ H fun x H1 => tl σ H1 fun l H2 => th σ H2 fun u H3 => ts σ H3 fun c H4 => ∃ a xs, x = .ref a ∧ SqL K H4 a xs ∧ c ≠ some 0 ∧
  ∀ p ys, H4 p = none → (∀ y ∈ ys, y ∈ xs) → ys.length ≤ xs.length → Q (.ref p) (upd H4 p (.lst ys))
theorem pick_vals {xs : List V} {its : List Value} (r : Vals xs its) : ∀ idx : List Nat, ∃ ys, Vals ys (idx.filterMap (its.toArray[·]?)) ∧ (∀ y ∈ ys, y ∈ xs) := by
  intro idx
  induction idx with
  | nil => exact ⟨[], .nil, fun y h => by cases h⟩
  | cons i idx ih =>
    obtain ⟨ys, h1, h2⟩ := ih
    cases e : xs[i]? with
    | none =>
      have l1 : xs.length ≤ i := List.getElem?_eq_none_iff.mp e
      have e2 : its.toArray[i]? = none := by
        rw [List.getElem?_toArray]
        exact List.getElem?_eq_none_iff.mpr (by rw [← r.length]; exact l1)
      exact ⟨ys, by rw [List.filterMap_cons, e2]; exact h1, h2⟩
    | some x =>
      obtain ⟨b, hb, hx⟩ := paired_get r e
      have e2 : its.toArray[i]? = some b := by rw [List.getElem?_toArray]; exact hb
      refine ⟨x :: ys, by rw [List.filterMap_cons, e2]; exact .cons hx h1, fun y hy => ?_⟩
      rcases List.mem_cons.mp hy with z | z
      · subst z; exact List.mem_of_getElem? e
      · exact h2 y z
theorem pick_len {items : Array Value} {lo hi st : Option Int} : (slicePick items lo hi st).size ≤ items.size := by
  unfold slicePick
  rw [List.size_toArray]
  refine Nat.le_trans (List.length_filterMap_le _ _) ?_
  refine sliceRange_length_le _ _ _ _ (fun hp => ?_) (fun hm => ?_)
  · unfold sliceBounds at hp ⊢
    simp only at hp ⊢
    constructor
    · cases lo with
      | none => simp [hp]
      | some i => simp only [hp, if_true]; omega
    · cases hi with
      | none => simp [hp]
      | some i => simp only [hp, if_true]; omega
  · unfold sliceBounds at hm ⊢
    simp only at hm ⊢
    constructor
    · cases lo with
      | none => simp [hm]
      | some i => simp only [hm, if_false]; omega
    · cases hi with
      | none => simp [hm]
      | some i => simp only [hm, if_false]; omega
theorem pe_sl3 {X : Cx} {e : Expr} {lo hi st : Option Expr} {te : TE} {tl th ts : TO} {p3 pos : Pos} (he : PE X e te) (hl : PO X lo tl) (hh : PO X hi th) (hst : PO X st ts)
    (hsub : ∀ a b : Addr, subscripted (.Slice lo hi st p3) false (.ref a) (.ref b) = operate [.ref a, .ref b] (getItem (.ref a) (.ref b)) := by intro _ _; with_unfolding_all rfl) :
    PE X (.Subscript e (.Slice lo hi st p3) pos) (tSl3 X.K te tl th ts) := by
  refine ⟨fun pins s σ H Q I h => ?_⟩
  refine Subscript_ (thn (he.run pins s σ H _ I h) fun v s1 ⟨x, H1, I1, r1, q1⟩ => ?_)
  refine wpAny_Slice (thn (hl.run pins s1 σ H1 _ I1 q1) fun vl s2 ⟨l, H2, I2, pl, q2⟩ => ?_)
  refine thn (hh.run pins s2 σ H2 _ I2 q2) fun vu s3 ⟨u, H3, I3, pu, q3⟩ => ?_
  refine thn (hst.run pins s3 σ H3 _ I3 q3) fun vs s4 ⟨o, H4, I4, ps, q4⟩ => ?_
  obtain ⟨a, xs, ex, hx, h0, q⟩ := q4
  subst ex
  cases r1
  have I5 : Inv X pins σ H4 { s4 with heap := s4.heap.push { cls := .type "slice", data := .fields #[vl, vu, vs] } } := I4.kept (t' := s4.toks) fun b ob q => Heap.get?_push_of_some _ q
  obtain ⟨its, r, ht, hz⟩ := I5.list hx
  have hlen := r.length
  show wpAny (model X.prog X.w) X.A (subscriptTail e (.Slice lo hi st p3) (.ref a) (.ref s4.heap.objs.size)) (EP X pins σ Q) X.xe { s4 with heap := s4.heap.push { cls := .type "slice", data := .fields #[vl, vu, vs] } }
  refine tail_any (ops := [.ref a, .ref s4.heap.objs.size]) ht.isList.typeIs (PySem.slot_list_getitem.lookup) ?_ (hsub _ _)
  refine wpAny_getItem_list_slice ht.isList (Heap.IsSliceOf.new _ vl vu vs) pl pu ps h0 ?_ (by rw [List.size_toArray]; omega)
  have hp := pick_len (items := its.toArray) (lo := l) (hi := u) (st := o)
  obtain ⟨ys, hy, hm⟩ := pick_vals r (sliceRange (sliceBounds l u o its.toArray.size).1 (sliceBounds l u o its.toArray.size).2.1 (sliceBounds l u o its.toArray.size).2.2)
  have hs : slicePick its.toArray l u o = ((sliceRange (sliceBounds l u o its.toArray.size).1 (sliceBounds l u o its.toArray.size).2.1 (sliceBounds l u o its.toArray.size).2.2).filterMap (its.toArray[·]?)).toArray := rfl
  rw [hs, List.size_toArray, ← hy.length, List.size_toArray, ← hlen] at hp
  rw [hs]
  refine ⟨.ref _, _, I5.laid (t' := s4.toks) (o := .lst ys) (fun b ob q => Heap.get?_push_of_some _ q) (Nat.le_refl _) ?_, rfl, q _ ys (I5.hok.fresh (Nat.le_refl _)) hm hp⟩
  exact ⟨Nat.le_trans hp hz, _, 0, hy, Heap.get?_push_size _ rfl⟩
theorem ksl3 (K : PySem.W.Frag) {X : Cx} {e : Expr} {lo hi st : Option Expr} {te : TE} {tl th ts : TO} {p3 pos : Pos} (he : PE X e te) (hl : PO X lo tl) (hh : PO X hi th) (hst : PO X st ts) (hK : X.K = K := by rfl)
    (hsub : ∀ a b : Addr, subscripted (.Slice lo hi st p3) false (.ref a) (.ref b) = operate [.ref a, .ref b] (getItem (.ref a) (.ref b)) := by intro _ _; with_unfolding_all rfl) :
    PE X (.Subscript e (.Slice lo hi st p3) pos) (tSl3 K te tl th ts) := by subst hK; exact pe_sl3 he hl hh hst hsub
/-! ### xs != [] -/
def rNeE (K : PySem.W.Frag) : R2 := fun x y H Q => ∃ a b xs, x = .ref a ∧ y = .ref b ∧ SqL K H a xs ∧ SqL K H b [] ∧ Q (.bl (!xs.isEmpty)) H
theorem kneE {X : Cx} (K : PySem.W.Frag) (hu : X.A.units + 64 < cLine) (hK : X.K = K := by rfl) : OpR X (compareOp .NotEq) (rNeE K) := by
  subst hK
  intro pins s σ H x y v u Q I rx ry h
  obtain ⟨a, b, xs, rfl, rfl, ha, hb, q⟩ := h
  cases (show v = Value.ref a from rx)
  cases (show u = Value.ref b from ry)
  obtain ⟨us, r1, p1, _⟩ := I.list ha
  obtain ⟨ws, r2, p2, _⟩ := I.list hb
  cases r2
  cases r1 with
  | nil => exact SeqAt.RcNeAt.lists (e := fun _ => true) p1.isList p2.isList rfl (by omega) (fun j h1 _ => absurd h1 (Nat.not_lt_zero j)) _ _ _ _ ⟨.bl false, H, I, rfl, q⟩
  | cons c d => exact SeqAt.RcNeAt.lists_lengths p1.isList p2.isList (by simp) (by omega) _ _ _ _ ⟨.bl true, H, I, rfl, q⟩
end FG

/-! GHot: a def that is called, within an except suite, with what was caught. Own layer over HandS. -/
namespace FG
open PySem PySem.Spec L2
open PyProof.Rows hiding St

/-- what is wanted, by the exception's address, class and fields -/
abbrev SpX := Addr → Value → Option Addr → List V → Hp → VK → Prop
structure FnX (P : Program) (w : World) (K : PySem.W.Frag) (mg : Str → Option Value) (base : Heap) (k : Nat) (f : Addr) (fd : FuncData) (ps : List Str) (sp : SpX) : Prop where
  len : ∀ a cls d vs H Q, sp a cls d vs H Q → vs.length = ps.length
  run : ∀ (A : Around) (outer : List Env) (s : Shared) (H : Hp) (args : Args) (us : List Value) (vs : List V) (Q : VK) (p : Addr × Obj) (cls : Value) (d : Option Addr), L2H.RoomH k A → Zc cls d p.2 → (∃ z, p.2.data = .fields z) → L2H.PinOk outer H s p → Env0 P w K mg base A outer s H →
    BindsTo s fd args (ps.zip us) → Vals vs us → sp p.1 cls d vs H Q → codeAny (model P w) A (.call (.ref f) args) (CR (L2.CX P w) outer P w H s Q fun _ _ _ => False) s
section
variable {P : Program} {w : World} {K : PySem.W.Frag} {mg : Str → Option Value} {base : Heap}
/-- a def of the text, by its body -/
theorem FnX.of {x qual : Str} {st : Stmt} {f : Addr} {fd : FuncData} {N ps : List Str} {k : Nat} {sp : SpX} (F : Fun K x qual st f fd) (S : FnScope N ps (defScope st)) (hn : ∀ a cls d vs H Q, sp a cls d vs H Q → vs.length = ps.length)
    (hb : ∀ (cdv : Value) (A : Around) (outer : List Env) (s : Shared) (H : Hp) (vs : List V) (Q : VK) (p : Addr × Obj) (cls : Value) (d : Option Addr), L2H.RoomH k (A.deeper (envOfC qual (defScope st) s.heap.objs.size f cdv)) → Zc cls d p.2 → (∃ z, p.2.data = .fields z) → sp p.1 cls d vs H Q →
      ∃ t, PSs (L2H.cxH (L2.CX P w) P w K mg base N qual (defScope st) f cdv A outer s H (fun _ _ _ => False) p) (defBody st) t ∧ t { nx := fun _ H' => Q .non H', rt := Q } (start N vs) H) : FnX P w K mg base (k + 1) f fd ps sp := by
  obtain ⟨oc, od, kV, doc, pm, an, cdv, ct, osl, rfl, lk, hcd⟩ := F.ex
  refine ⟨hn, fun A outer s H ar us vs Q p cls d hg hz hf hpin env0 bnd rel hsp => ?_⟩
  have len := hn _ _ _ _ _ _ hsp
  have inK : K.In s.heap := env0.mod.kin.keeps fun b o z => (env0.bs b o z).1
  have nol : s.heap.NoLimit := env0.mod.nolimit.keeps fun b o z => (env0.bs b o z).1
  have hk : ∀ y ∈ ps.zip us, (defScope st).names.lookup y.1 = some .local ∨ ((defScope st).names.lookup y.1 = some .cell ∧ ((cellsFrom (s.heap.objs.size + 1) (defScope st).names []).lookup y.1).isSome = true) := by
    rintro ⟨n, v⟩ hy
    exact (S.par n (List.of_mem_zip hy).1).elim .inl fun q => .inr ⟨q, PySem.W.cellsFrom_some _ _ _ (.inl q)⟩
  refine codeAny_call_function hg.depth (inK _ _ lk) rfl S.co S.gen rfl (PySem.W.codeRec_of inK hcd) (bnd _ _ _ _ ?_)
  refine wpAny_newFunctionEnv_cells S.kind hk fun env ee s1 inc => ?_
  subst ee
  refine ⟨nol.keeps inc.toInCall.keep, codeAny_func ?_⟩
  obtain ⟨t, ht, hq⟩ := hb cdv A outer s H vs Q p cls d (hg.deeper _) hz hf hsp
  have I0 : Inv (L2H.cxH (L2.CX P w) P w K mg base N qual (defScope st) f cdv A outer s H (fun _ _ _ => False) p) [] (start N vs) H s1 := L2H.inv_startH S hpin env0 len rel inc
  refine wpAny_mono (ht.run [] s1 (start N vs) H _ I0 hq) (fun fl s2 hs => ?_) fun _ _ hs => hs
  have fin : ∀ {σ2 : St} {H2 : Hp} {v : V} {u : Value}, Inv (L2H.cxH (L2.CX P w) P w K mg base N qual (defScope st) f cdv A outer s H (fun _ _ _ => False) p) [] σ2 H2 s2 → RelV v u → Q v H2 → CE outer P w H s Q u s2 := by
    intro σ2 H2 v u J rv q
    exact ⟨v, H2, J.os, J.bare, J.base, J.hok, rv, q⟩
  match fl, hs with
  | .ret u, ⟨v, σ2, H2, J, rv, q⟩ => exact fin J rv q
  | .next, ⟨σ2, H2, J, q⟩ => exact fin (v := V.non) (u := Value.none) J rfl q
  | .brk, ⟨_, _, _, q⟩ => exact q.elim
  | .cont, ⟨_, _, _, q⟩ => exact q.elim
/-- the module's def x, called with what was caught, keeps sp -/
structure CalX (P : Program) (w : World) (K : PySem.W.Frag) (mg : Str → Option Value) (base : Heap) (k : Nat) (x : Str) (sp : SpX) : Prop where
  ex : ∃ (f : Addr) (fd : FuncData) (ps : List Str), FnX P w K mg base k f fd ps sp ∧ mg x = some (.ref f) ∧ PySem.W.keepIn K (.ref f) = true ∧ Binds K fd ps []
theorem CalX.of {k : Nat} {x n q : Str} {f : Addr} {ps : List Str} {st : Stmt} {sp : SpX} (g : mg x = some (.ref f)) (F : ∃ fd, Fun K n q st f fd) (b : ∀ {fd}, Fun K n q st f fd → Binds K fd ps []) (h : ∀ {fd}, Fun K n q st f fd → FnX P w K mg base k f fd ps sp) : CalX P w K mg base k x sp :=
  let ⟨fd, z⟩ := F; ⟨f, fd, ps, h z, g, z.kp, b z⟩
end
section
variable {X : Cx} {k : Nat} {sp : SpX} {x : Str} {p pos : Pos} {e : Expr} {es : List Expr} {t : TA} {a : Addr} {oe : Obj} {cls : Value} {d : Option Addr} {pn : List (Addr × Obj)}
theorem gx (c : CalX X.prog X.w X.K X.mg X.base k x sp) (hr : RG k X.A) (hz : Zc cls d oe) (hf : ∃ z, oe.data = .fields z) (ha : PA (X.suite a ((a, oe) :: pn)) (e :: es) t) (hg : Gl X x := by rfl) (hdb : (x == ("__debug__" : Str)) = false := by decide)
    (he : starEach (e :: es) X.env = (false, eval e X.env) :: starEach es X.env := by rfl) (hpl : (backTo pos (starEach es X.env)).any (·.1) = false := by rfl) :
    PE (X.suite a ((a, oe) :: pn)) (.Call (.Name x p) (e :: es) [] pos) (fun σ H Q => t σ H fun vs H1 => sp a cls d vs H1 Q) := by
  obtain ⟨f, fd, ps, F, hm, hk, hb⟩ := c.ex
  refine ⟨fun pins s σ H Q I h => wpAny_Call_Name_kw (ld_glob (X := X.suite a ((a, oe) :: pn)) I hg hm ?_ hdb)⟩
  refine PySem.W.callWith_K (h₀ := X.base) I.ok.mod.kin hk (thn (ha.run pos pins s σ H _ I h) fun us s1 ⟨vs, H1, I1, r, q⟩ => ⟨I1.kIn, ?_⟩) he hpl
  have ln : us.length = ps.length := r.length.symm.trans (F.len _ _ _ _ _ _ q)
  have b := hb s1 us I1.kIn (by simpa using ln)
  rw [List.append_nil] at b
  have P1 := I1.pin (a, oe) (List.mem_append_left _ List.mem_cons_self)
  have hpin : L2H.PinOk X.stack H1 s1 (a, oe) := ⟨P1.1, P1.2.1, fun hm => (List.mem_cons.mp (I1.stkSub a hm)).elim P1.2.2.1 P1.2.2.2.1, P1.2.2.2.2⟩
  refine wpAny_call (codeAny_mono (F.run (X.A.mark (some (.ref a))) X.stack s1 H1 ⟨us, []⟩ us vs Q (a, oe) cls d ⟨hr.r.dp, hr.r.un⟩ hz hf hpin I1.env0 b r q) fun q s2 hq => ?_)
  match q, hq with
  | .error e, hq => exact passAt (X := X.suite a ((a, oe) :: pn)) takes0 σ pins H1 s1 e s2 I1 hq
  | .ok (.ret u), hq => exact I1.after hq
  | .ok .next, hq => exact hq.elim
  | .ok .brk, hq => exact hq.elim
  | .ok .cont, hq => exact hq.elim
end
/-! asked of it where it is known -/
section
variable {X : Cx} {a : Addr} {oe : Obj} {cls : Value} {d : Option Addr}
theorem call_isH (hz : Zc cls d oe) (hf : ∃ vs, oe.data = .fields vs) (hp : (a, oe) ∈ X.pn) : CallR X (.builtin "isinstance") (rIsX X.K a cls d) := by
  intro pins s σ H xs us Q I r h
  obtain ⟨D, c, cv, b, rfl, rfl, C, hcv, e, hdd, q⟩ := h
  cases r with
  | cons rx rr =>
    cases rr with
    | cons rt rr =>
      cases rr
      cases rx
      have ec := hcv _ rt
      subst ec
      obtain ⟨hget, _⟩ := I.pin (a, oe) (List.mem_append.mpr (.inl hp))
      obtain ⟨vs, hv⟩ := hf
      have hcl : (PySem.W.clsIn X.K D).isSome = true := by
        have h := C.hd
        unfold PySem.W.hasDictIn at h
        cases q : PySem.W.clsIn X.K D with
        | some _ => rfl
        | none => rw [q] at h; cases h
      have go : ∀ {od : Option Obj}, PySem.W.InstAt s.heap a oe D od → _ := fun {od} J =>
        PySem.W.kia_one (prog := X.prog) (w := X.w) (A := X.A) (E := X.xe) (Q := EP X pins σ Q) (PySem.W.kitx_exc (od := od) hcl C.hg C.hk C.hs C.ha C.hn C.ht C.hm) I.kIn J e (fun z => nomatch z) fun tk => ⟨.bl b, H, I.kept (t' := tk) fun _ _ z => z, rfl, q⟩
      cases d with
      | none => exact go (od := none) ⟨hget, hz.1, by unfold PySem.W.notCls; rw [hv] <;> rfl, by rw [hz.2]; trivial⟩
      | some dd =>
        obtain ⟨fs, ed⟩ := hdd dd rfl
        have hx : ObjOk X.prog X.w H s.heap dd (.xd fs) := I.hok dd _ ed
        obtain ⟨mA, ⟨od, _, _, ho, _⟩, _⟩ := hx
        exact go (od := some od) ⟨hget, hz.1, by unfold PySem.W.notCls; rw [hv] <;> rfl, by rw [hz.2]; exact ho⟩
theorem pe_xh {e : Expr} {te : TE} {pos : Pos} {n : Str} (hz : Zc cls d oe) (hf : ∃ vs, oe.data = .fields vs) (hp : (a, oe) ∈ X.pn) (he : PE X e te) (hb : attributeBase e n X.env (eval e X.env) = eval e X.env := by rfl) :
    PE X (.Attribute e n pos) (tXg X.K a cls d n te) := by
  refine ⟨fun pins s σ H Q I h => ?_⟩
  refine attr_of hb (thn (he.run pins s σ H _ I h) fun u s1 hh => ?_)
  obtain ⟨x, H1, I1, rx, ex, C, dd, fs, kvs, v, ec, xc, hm, ed, ea, l, q⟩ := hh
  subst ex
  obtain rfl : u = Value.ref a := rx
  subst ec
  subst ed
  obtain ⟨ha, _⟩ := I1.pin (a, oe) (List.mem_append_left _ hp)
  obtain ⟨vs, hd⟩ := hf
  have hx : ObjOk X.prog X.w H1 s1.heap dd (.xd kvs) := I1.hok dd _ ea
  obtain ⟨mA, hns, hr⟩ := hx
  obtain ⟨od, ho, hl⟩ := lookIn_ns hns
  obtain ⟨u, hu, ru⟩ := RelO.some_of (v := v) (o := mA n) (by rw [← l]; exact hr n)
  have J : PySem.W.InstAt s1.heap a oe C (some od) := ⟨ha, hz.1, by unfold PySem.W.notCls; rw [hd] <;> rfl, by rw [hz.2]; exact ho⟩
  exact HandSPX.exc_get I1.kIn J xc.x.ga xc.x.gg xc.x.exC (PySem.W.findObj_own xc.x.hdC (xc.no n hm) rfl (by rw [hl, hu])) (handed_of ru) ⟨v, H1, I1.tok _, ru, q⟩
end
theorem hotU {k : Nat} {A : Around} (h : L2H.RoomH k A) : A.units + 64 < cLine := by have := h.un; omega
/-! xs.count(True), xs all truths -/
def rCntB (K : PySem.W.Frag) : V → List V → Hp → VK → Prop := fun x xs H Q => ∃ (p : Addr) (bs : List Bool) (k : Bool), x = .ref p ∧ xs = [.bl k] ∧ SqL K H p (bs.map V.bl) ∧ Q (.int (bs.count k : Nat)) H
theorem kcntB {X : Cx} (K : PySem.W.Frag) (hu : X.A.units + 64 < cLine) (hK : X.K = K := by rfl) : MtR X "list.count" (rCntB K) := by
  subst hK
  intro pins s σ H x xs v us Q I rx rxs h
  obtain ⟨p, bs, k, rfl, rfl, hs, q⟩ := h
  cases rx
  obtain ⟨u, rfl, ru⟩ := rxs.one
  cases (show u = Value.bool k from ru)
  obtain ⟨its, rv, ⟨o, n, ho, hc, hdn, hd⟩, hlen⟩ := I.list hs
  have dp : ∀ bs : List Bool, DpAll X.K H (bs.map V.bl) (bs.map PyData.bool) := fun bs => by
    induction bs with
    | nil => exact .nil
    | cons b bs ih => exact .cons (.bl b) ih
  obtain ⟨as, rs⟩ := Dp.readsAll I _ _ its (dp bs) rv
  have e1 : ∀ bs : List Bool, (bs.map PyData.bool).countP (fun y => PyData.eqv y (.bool k)) = bs.count k := fun bs => by
    induction bs with
    | nil => rfl
    | cons b bs ih =>
      rw [List.map_cons, List.countP_cons, List.count_cons, ih]
      congr 1
  refine PySem.SeqAt.count_list_data (vs := its.toArray) (xs := bs.map PyData.bool) (d := .bool k) (bs := []) ⟨o, ho, hc, n, hd⟩ (by simpa using rs) (Reads.bool k) ?_ ?_ ?_ ?_
  · have pl : ∀ bs : List Bool, PyData.plainAll (bs.map PyData.bool) = true := fun bs => by
      induction bs with
      | nil => simp only [List.map_nil, PyData.plainAll]
      | cons b bs ih => simp only [List.map_cons, PyData.plainAll, PyData.plain, ih, Bool.and_self]
    exact pl bs
  · simp only [PyData.plain]
  · simp only [PyData.depth]; omega
  · rw [e1]
    exact ⟨.int (bs.count k : Nat), H, I.tok _, ⟨_, rfl⟩, q⟩
/-! [..], apart from the table of modules -/
def tLstN (t : TA) : TE := fun σ H Q => t σ H fun xs H1 => xs.length ≤ sizeLine ∧ ∀ p, H1 p = none → p ≠ sysModules → Q (.ref p) (upd H1 p (.lst xs))
theorem pe_lstN {X : Cx} {es : List Expr} {pos : Pos} {t : TA} (h : PA X es t) : PE X (.List es pos) (tLstN t) := by
  refine ⟨fun pins s σ H Q I hq => ?_⟩
  refine wpAny_List_spliced (thn (h.run pos pins s σ H _ I hq) fun us s1 ⟨xs, H1, I1, r, z, q⟩ => ⟨by rw [← r.length]; exact z, ?_⟩)
  have hf : H1 s1.heap.objs.size = none := I1.hok.fresh (Nat.le_refl _)
  refine ⟨.ref s1.heap.objs.size, upd H1 s1.heap.objs.size (.lst xs), I1.laid (t' := s1.toks) (fun b u e => Heap.get?_push_of_some _ e) (Nat.le_refl _) ?_, rfl, q _ hf (Nat.ne_of_gt I1.big)⟩
  exact ⟨z, us, 0, r, Heap.get?_push_size _ rfl⟩
/-! xs == ys: other lengths, or data -/
def rEqL (K : PySem.W.Frag) : R2 := fun x y H Q => (∃ a b xs ys, x = .ref a ∧ y = .ref b ∧ SqL K H a xs ∧ SqL K H b ys ∧ xs.length ≠ ys.length ∧ Q (.bl false) H) ∨ rEqD K x y H Q
theorem keqL {X : Cx} (K : PySem.W.Frag) (hu : X.A.units + 64 < cLine) (hK : X.K = K := by rfl) : OpR X (compareOp .Eq) (rEqL K) := by
  subst hK
  intro pins s σ H x y v u Q I rx ry h
  rcases h with ⟨a, b, xs, ys, rfl, rfl, ha, hb, hl, q⟩ | h
  · cases (show v = Value.ref a from rx)
    cases (show u = Value.ref b from ry)
    obtain ⟨us, r1, p1, _⟩ := I.list ha
    obtain ⟨ws, r2, p2, _⟩ := I.list hb
    exact SeqAt.RcAt.lists_lengths p1.isList p2.isList (by simpa [← r1.length, ← r2.length] using hl) (by omega) _ _ _ _ ⟨.bl false, H, I, rfl, q⟩
  · exact op_eqD hu pins s σ H x y v u Q I rx ry h
end FG

/-! short tactics of our own, local to this text -/
local macro_rules | `(tactic| walk_at "ne") => `(tactic| first | assumption | (apply Ne.symm; assumption) | grind)
local macro_rules | `(tactic| walk_at "hl") => `(tactic| first | assumption | exact L2.upd_same | exact (L2.upd_ne (by walk_at "ne")).trans (by walk_at "hl"))
local macro_rules | `(tactic| walk_at "c") => `(tactic| first | omega | (refine ⟨?_, ?_⟩ <;> omega) | (refine ⟨?_, ?_, ?_⟩ <;> omega) | decide)
/-- one step of a reading -/
local macro_rules | `(tactic| walk_at "r1") => `(tactic| first
  | refine ⟨_, rfl, ?_⟩
  | refine ⟨_, _, rfl, rfl, ?_⟩
  | refine ⟨_, _, _, _, rfl, rfl, SqL.of (by walk_at "hl"), rfl, ?_⟩
  | refine ⟨_, _, rfl, .inl (SqL.of (by walk_at "hl")), ?_⟩
  | refine ⟨_, _, rfl, rfl, (by walk_at "c"), ?_⟩
  | refine ⟨_, _, rfl, rfl, .inl (by walk_at "c"), ?_⟩)
local macro_rules | `(tactic| walk_at "rd") => `(tactic| repeat walk_at "r1")
namespace Lw
open PySem PySem.Spec L2 FG
open PyProof.Rows hiding St
def top (i : Nat) : Stmt := PySem.Challenge.pw_framerooms_k07_frames_refused.main.body.getD i (.Pass ⟨0, 0, 0, 0⟩)
abbrev s_is_number : Stmt := top 7
abbrev s_is_whole : Stmt := top 8
abbrev s__law_cell : Stmt := top 13
abbrev s__law_box : Stmt := top 14
abbrev s__law_take : Stmt := top 15
abbrev s__law_model : Stmt := top 16
abbrev s__law_standing : Stmt := top 17
abbrev s__law_row : Stmt := top 18
abbrev s__law_begin : Stmt := top 19
abbrev s__law_finish : Stmt := top 20
abbrev s__law_one : Stmt := top 21
abbrev s__law_deeds : Stmt := top 22
abbrev s__law_filled : Stmt := top 23
abbrev s__law_kinds : Stmt := top 24
abbrev s__law_caught : Stmt := top 25
abbrev s__law_due : Stmt := top 26
abbrev s__law_state : Stmt := top 27
abbrev s__law_goes_on : Stmt := top 28
abbrev s__law_things : Stmt := top 29
abbrev s_law : Stmt := top 30
abbrev s_NoFrame___init__ : Stmt := inClass (top 2) 0
abbrev s_Gone___init__ : Stmt := inClass (top 3) 0
abbrev s_TooMany___init__ : Stmt := inClass (top 5) 0
abbrev s_Frames___init__ : Stmt := inClass (top 11) 0
abbrev s_Frames_need_begun : Stmt := inClass (top 11) 1
abbrev s_Frames_need_standing : Stmt := inClass (top 11) 2
abbrev s_Frames_need_more : Stmt := inClass (top 11) 3
abbrev s_Frames_begin : Stmt := inClass (top 11) 4
abbrev s_Frames_finish : Stmt := inClass (top 11) 5
abbrev s_Frames_clear : Stmt := inClass (top 11) 6
abbrev s_Frames_stands : Stmt := inClass (top 11) 7
abbrev s_Frames_inside : Stmt := inClass (top 11) 8
abbrev s_Frames_row : Stmt := inClass (top 11) 9
abbrev s_Frames_within : Stmt := inClass (top 11) 10
abbrev s_Frames_ended_by : Stmt := inClass (top 11) 11
abbrev s_Frames_standing : Stmt := inClass (top 11) 12
abbrev s_Frames_begun : Stmt := inClass (top 11) 13
theorem sc_is_number : FnScope ["thing"] ["thing"] (defScope s_is_number) := ⟨rfl, rfl, rfl, by decide +kernel, rfl, by decide +kernel, by decide +kernel⟩
theorem sc_is_whole : FnScope ["thing", "low", "high"] ["thing", "low", "high"] (defScope s_is_whole) := ⟨rfl, rfl, rfl, by decide +kernel, rfl, by decide +kernel, by decide +kernel⟩
theorem sc__law_cell : FnScope ["_law_script", "_law_k"] ["_law_script", "_law_k"] (defScope s__law_cell) := ⟨rfl, rfl, rfl, by decide +kernel, rfl, by decide +kernel, by decide +kernel⟩
theorem sc__law_box : FnScope ["_law_cell_here"] ["_law_cell_here"] (defScope s__law_box) := ⟨rfl, rfl, rfl, by decide +kernel, rfl, by decide +kernel, by decide +kernel⟩
theorem sc__law_take : FnScope ["_law_box_here", "_law_many", "_law_digit", "_law_one_here", "_law_other"] ["_law_box_here", "_law_many"] (defScope s__law_take) := ⟨rfl, rfl, rfl, by decide +kernel, rfl, by decide +kernel, by decide +kernel⟩
theorem sc__law_model : FnScope [] [] (defScope s__law_model) := ⟨rfl, rfl, rfl, by decide +kernel, rfl, by decide +kernel, by decide +kernel⟩
theorem sc__law_standing : FnScope ["_law_model_here", "_law_k"] ["_law_model_here"] (defScope s__law_standing) := ⟨rfl, rfl, rfl, by decide +kernel, rfl, by decide +kernel, by decide +kernel⟩
theorem sc__law_row : FnScope ["_law_model_here", "_law_frame", "_law_found"] ["_law_model_here", "_law_frame"] (defScope s__law_row) := ⟨rfl, rfl, rfl, by decide +kernel, rfl, by decide +kernel, by decide +kernel⟩
theorem sc__law_begin : FnScope ["_law_model_here", "_law_frame"] ["_law_model_here", "_law_frame"] (defScope s__law_begin) := ⟨rfl, rfl, rfl, by decide +kernel, rfl, by decide +kernel, by decide +kernel⟩
theorem sc__law_finish : FnScope ["_law_model_here", "_law_frame", "_law_ended", "_law_k"] ["_law_model_here", "_law_frame"] (defScope s__law_finish) := ⟨rfl, rfl, rfl, by decide +kernel, rfl, by decide +kernel, by decide +kernel⟩
theorem sc__law_one : FnScope ["_law_box_here", "_law_some", "_law_way", "_law_at"] ["_law_box_here", "_law_some"] (defScope s__law_one) := ⟨rfl, rfl, rfl, by decide +kernel, rfl, by decide +kernel, by decide +kernel⟩
theorem sc__law_deeds : FnScope ["_law_box_here", "_law_frames", "_law_model_here", "_law_many", "_law_turn", "_law_ends", "_law_frame"] ["_law_box_here", "_law_frames", "_law_model_here", "_law_many"] (defScope s__law_deeds) := ⟨rfl, rfl, rfl, by decide +kernel, rfl, by decide +kernel, by decide +kernel⟩
theorem sc__law_filled : FnScope ["_law_frames", "_law_model_here"] ["_law_frames", "_law_model_here"] (defScope s__law_filled) := ⟨rfl, rfl, rfl, by decide +kernel, rfl, by decide +kernel, by decide +kernel⟩
theorem sc__law_kinds : FnScope ["_law_e"] ["_law_e"] (defScope s__law_kinds) := ⟨rfl, rfl, rfl, by decide +kernel, rfl, by decide +kernel, by decide +kernel⟩
theorem sc__law_caught : FnScope ["_law_way", "_law_frames", "_law_thing", "_law_told", "_law_e"] ["_law_way", "_law_frames", "_law_thing"] (defScope s__law_caught) := ⟨rfl, rfl, rfl, by decide +kernel, rfl, by decide +kernel, by decide +kernel⟩
theorem sc__law_due : FnScope ["_law_way", "_law_model_here", "_law_thing", "_law_number"] ["_law_way", "_law_model_here", "_law_thing"] (defScope s__law_due) := ⟨rfl, rfl, rfl, by decide +kernel, rfl, by decide +kernel, by decide +kernel⟩
theorem sc__law_state : FnScope ["_law_frames", "_law_many", "_law_rows", "_law_k"] ["_law_frames"] (defScope s__law_state) := ⟨rfl, rfl, rfl, by decide +kernel, rfl, by decide +kernel, by decide +kernel⟩
theorem sc__law_goes_on : FnScope ["_law_box_here", "_law_frames", "_law_model_here", "_law_turn", "_law_frame", "_law_k"] ["_law_box_here", "_law_frames", "_law_model_here"] (defScope s__law_goes_on) := ⟨rfl, rfl, rfl, by decide +kernel, rfl, by decide +kernel, by decide +kernel⟩
theorem sc__law_things : FnScope ["_law_box_here", "_law_model_here", "_law_many", "_law_some", "_law_gone", "_law_k", "_law_first"] ["_law_box_here", "_law_model_here"] (defScope s__law_things) := ⟨rfl, rfl, rfl, by decide +kernel, rfl, by decide +kernel, by decide +kernel⟩
theorem sc_law : FnScope ["_law_script", "_law_k", "_law_box_here", "_law_full", "_law_frames", "_law_model_here", "_law_stood", "_law_thing", "_law_way", "_law_due_here", "_law_found"] ["_law_script"] (defScope s_law) := ⟨rfl, rfl, rfl, by decide +kernel, rfl, by decide +kernel, by decide +kernel⟩
theorem sc_NoFrame___init__ : FnScope ["self", "found"] ["self", "found"] (defScope s_NoFrame___init__) := ⟨rfl, rfl, rfl, by decide +kernel, rfl, by decide +kernel, by decide +kernel⟩
theorem sc_Gone___init__ : FnScope ["self", "found", "by"] ["self", "found", "by"] (defScope s_Gone___init__) := ⟨rfl, rfl, rfl, by decide +kernel, rfl, by decide +kernel, by decide +kernel⟩
theorem sc_TooMany___init__ : FnScope ["self", "many"] ["self", "many"] (defScope s_TooMany___init__) := ⟨rfl, rfl, rfl, by decide +kernel, rfl, by decide +kernel, by decide +kernel⟩
theorem sc_Frames___init__ : FnScope ["self"] ["self"] (defScope s_Frames___init__) := ⟨rfl, rfl, rfl, by decide +kernel, rfl, by decide +kernel, by decide +kernel⟩
theorem sc_Frames_need_begun : FnScope ["self", "frame"] ["self", "frame"] (defScope s_Frames_need_begun) := ⟨rfl, rfl, rfl, by decide +kernel, rfl, by decide +kernel, by decide +kernel⟩
theorem sc_Frames_need_standing : FnScope ["self", "frame"] ["self", "frame"] (defScope s_Frames_need_standing) := ⟨rfl, rfl, rfl, by decide +kernel, rfl, by decide +kernel, by decide +kernel⟩
theorem sc_Frames_need_more : FnScope ["self"] ["self"] (defScope s_Frames_need_more) := ⟨rfl, rfl, rfl, by decide +kernel, rfl, by decide +kernel, by decide +kernel⟩
theorem sc_Frames_begin : FnScope ["self", "frame"] ["self", "frame"] (defScope s_Frames_begin) := ⟨rfl, rfl, rfl, by decide +kernel, rfl, by decide +kernel, by decide +kernel⟩
theorem sc_Frames_finish : FnScope ["self", "frame", "ended", "one"] ["self", "frame"] (defScope s_Frames_finish) := ⟨rfl, rfl, rfl, by decide +kernel, rfl, by decide +kernel, by decide +kernel⟩
theorem sc_Frames_clear : FnScope ["self", "frame"] ["self", "frame"] (defScope s_Frames_clear) := ⟨rfl, rfl, rfl, by decide +kernel, rfl, by decide +kernel, by decide +kernel⟩
theorem sc_Frames_stands : FnScope ["self", "thing"] ["self", "thing"] (defScope s_Frames_stands) := ⟨rfl, rfl, rfl, by decide +kernel, rfl, by decide +kernel, by decide +kernel⟩
theorem sc_Frames_inside : FnScope ["self", "frame"] ["self", "frame"] (defScope s_Frames_inside) := ⟨rfl, rfl, rfl, by decide +kernel, rfl, by decide +kernel, by decide +kernel⟩
theorem sc_Frames_row : FnScope ["self", "frame", "found", "at"] ["self", "frame"] (defScope s_Frames_row) := ⟨rfl, rfl, rfl, by decide +kernel, rfl, by decide +kernel, by decide +kernel⟩
theorem sc_Frames_within : FnScope ["self", "frame", "one"] ["self", "frame"] (defScope s_Frames_within) := ⟨rfl, rfl, rfl, by decide +kernel, rfl, by decide +kernel, by decide +kernel⟩
theorem sc_Frames_ended_by : FnScope ["self", "frame"] ["self", "frame"] (defScope s_Frames_ended_by) := ⟨rfl, rfl, rfl, by decide +kernel, rfl, by decide +kernel, by decide +kernel⟩
theorem sc_Frames_standing : FnScope ["self", "one"] ["self"] (defScope s_Frames_standing) := ⟨rfl, rfl, rfl, by decide +kernel, rfl, by decide +kernel, by decide +kernel⟩
theorem sc_Frames_begun : FnScope ["self"] ["self"] (defScope s_Frames_begun) := ⟨rfl, rfl, rfl, by decide +kernel, rfl, by decide +kernel, by decide +kernel⟩
structure Tx (K : PySem.W.Frag) (mg : Str → Option Value) : Prop where
  g_is_number : mg "is_number" = some (.ref (He.ga K "is_number"))
  g_is_whole : mg "is_whole" = some (.ref (He.ga K "is_whole"))
  g__law_cell : mg "_law_cell" = some (.ref (He.ga K "_law_cell"))
  g__law_box : mg "_law_box" = some (.ref (He.ga K "_law_box"))
  g__law_take : mg "_law_take" = some (.ref (He.ga K "_law_take"))
  g__law_model : mg "_law_model" = some (.ref (He.ga K "_law_model"))
  g__law_standing : mg "_law_standing" = some (.ref (He.ga K "_law_standing"))
  g__law_row : mg "_law_row" = some (.ref (He.ga K "_law_row"))
  g__law_begin : mg "_law_begin" = some (.ref (He.ga K "_law_begin"))
  g__law_finish : mg "_law_finish" = some (.ref (He.ga K "_law_finish"))
  g__law_one : mg "_law_one" = some (.ref (He.ga K "_law_one"))
  g__law_deeds : mg "_law_deeds" = some (.ref (He.ga K "_law_deeds"))
  g__law_filled : mg "_law_filled" = some (.ref (He.ga K "_law_filled"))
  g__law_kinds : mg "_law_kinds" = some (.ref (He.ga K "_law_kinds"))
  g__law_caught : mg "_law_caught" = some (.ref (He.ga K "_law_caught"))
  g__law_due : mg "_law_due" = some (.ref (He.ga K "_law_due"))
  g__law_state : mg "_law_state" = some (.ref (He.ga K "_law_state"))
  g__law_goes_on : mg "_law_goes_on" = some (.ref (He.ga K "_law_goes_on"))
  g__law_things : mg "_law_things" = some (.ref (He.ga K "_law_things"))
  g_law : mg "law" = some (.ref (He.ga K "law"))
  g_Frames : mg "Frames" = some (.ref (He.ga K "Frames"))
  g_NoFrame : mg "NoFrame" = some (.ref (He.ga K "NoFrame"))
  g_Gone : mg "Gone" = some (.ref (He.ga K "Gone"))
  g_Ground : mg "Ground" = some (.ref (He.ga K "Ground"))
  g_TooMany : mg "TooMany" = some (.ref (He.ga K "TooMany"))
  g_RoomError : mg "RoomError" = some (.ref (He.ga K "RoomError"))
  z_len : mg "len" = none
  z_range : mg "range" = none
  z_repr : mg "repr" = none
  z_isinstance : mg "isinstance" = none
  z_int : mg "int" = none
  z_bool : mg "bool" = none
  z_max : mg "max" = none
  z_min : mg "min" = none
  z_reversed : mg "reversed" = none
  z_zip : mg "zip" = none
  z_list : mg "list" = none
  i_MOST : ∃ t, mg "MOST" = some (.int 100 t)
  c_Frames : Cls K (He.ga K "Frames")
  n_Frames_holders : NoAttr K (He.ga K "Frames") "holders"
  n_Frames_takers : NoAttr K (He.ga K "Frames") "takers"
  m_Frames_need_begun : Meth K (He.ga K "Frames") "need_begun" (He.ma K (He.ga K "Frames") "need_begun")
  m_Frames_need_standing : Meth K (He.ga K "Frames") "need_standing" (He.ma K (He.ga K "Frames") "need_standing")
  m_Frames_need_more : Meth K (He.ga K "Frames") "need_more" (He.ma K (He.ga K "Frames") "need_more")
  m_Frames_begin : Meth K (He.ga K "Frames") "begin" (He.ma K (He.ga K "Frames") "begin")
  m_Frames_finish : Meth K (He.ga K "Frames") "finish" (He.ma K (He.ga K "Frames") "finish")
  m_Frames_clear : Meth K (He.ga K "Frames") "clear" (He.ma K (He.ga K "Frames") "clear")
  m_Frames_stands : Meth K (He.ga K "Frames") "stands" (He.ma K (He.ga K "Frames") "stands")
  m_Frames_inside : Meth K (He.ga K "Frames") "inside" (He.ma K (He.ga K "Frames") "inside")
  m_Frames_row : Meth K (He.ga K "Frames") "row" (He.ma K (He.ga K "Frames") "row")
  m_Frames_within : Meth K (He.ga K "Frames") "within" (He.ma K (He.ga K "Frames") "within")
  m_Frames_ended_by : Meth K (He.ga K "Frames") "ended_by" (He.ma K (He.ga K "Frames") "ended_by")
  m_Frames_standing : Meth K (He.ga K "Frames") "standing" (He.ma K (He.ga K "Frames") "standing")
  m_Frames_begun : Meth K (He.ga K "Frames") "begun" (He.ma K (He.ga K "Frames") "begun")
  k_Frames : Mk K (He.ga K "Frames") (He.ma K (He.ga K "Frames") "__init__")
  x_NoFrame : XC K (He.ga K "NoFrame") ["found"] ∧ XI K (He.ga K "NoFrame") (He.ma K (He.ga K "NoFrame") "__init__")
  x_Gone : XC K (He.ga K "Gone") ["found", "by"] ∧ XI K (He.ga K "Gone") (He.ma K (He.ga K "Gone") "__init__")
  x_Ground : X0 K (He.ga K "Ground")
  x_TooMany : XC K (He.ga K "TooMany") ["many"] ∧ XI K (He.ga K "TooMany") (He.ma K (He.ga K "TooMany") "__init__")
  e_NoFrame_RoomError : PySem.W.exmOne K (.ref (He.ga K "NoFrame")) (.ref (He.ga K "RoomError")) = some true
  e_Gone_RoomError : PySem.W.exmOne K (.ref (He.ga K "Gone")) (.ref (He.ga K "RoomError")) = some true
  e_Ground_RoomError : PySem.W.exmOne K (.ref (He.ga K "Ground")) (.ref (He.ga K "RoomError")) = some true
  e_TooMany_RoomError : PySem.W.exmOne K (.ref (He.ga K "TooMany")) (.ref (He.ga K "RoomError")) = some true
  y_NoFrame_NoFrame : PySem.W.kitOne K (.ref (He.ga K "NoFrame")) (.ref (He.ga K "NoFrame")) = some true
  y_NoFrame_Gone : PySem.W.kitOne K (.ref (He.ga K "NoFrame")) (.ref (He.ga K "Gone")) = some false
  y_NoFrame_Ground : PySem.W.kitOne K (.ref (He.ga K "NoFrame")) (.ref (He.ga K "Ground")) = some false
  y_NoFrame_TooMany : PySem.W.kitOne K (.ref (He.ga K "NoFrame")) (.ref (He.ga K "TooMany")) = some false
  y_Gone_NoFrame : PySem.W.kitOne K (.ref (He.ga K "Gone")) (.ref (He.ga K "NoFrame")) = some false
  y_Gone_Gone : PySem.W.kitOne K (.ref (He.ga K "Gone")) (.ref (He.ga K "Gone")) = some true
  y_Gone_Ground : PySem.W.kitOne K (.ref (He.ga K "Gone")) (.ref (He.ga K "Ground")) = some false
  y_Gone_TooMany : PySem.W.kitOne K (.ref (He.ga K "Gone")) (.ref (He.ga K "TooMany")) = some false
  y_Ground_NoFrame : PySem.W.kitOne K (.ref (He.ga K "Ground")) (.ref (He.ga K "NoFrame")) = some false
  y_Ground_Gone : PySem.W.kitOne K (.ref (He.ga K "Ground")) (.ref (He.ga K "Gone")) = some false
  y_Ground_Ground : PySem.W.kitOne K (.ref (He.ga K "Ground")) (.ref (He.ga K "Ground")) = some true
  y_Ground_TooMany : PySem.W.kitOne K (.ref (He.ga K "Ground")) (.ref (He.ga K "TooMany")) = some false
  y_TooMany_NoFrame : PySem.W.kitOne K (.ref (He.ga K "TooMany")) (.ref (He.ga K "NoFrame")) = some false
  y_TooMany_Gone : PySem.W.kitOne K (.ref (He.ga K "TooMany")) (.ref (He.ga K "Gone")) = some false
  y_TooMany_Ground : PySem.W.kitOne K (.ref (He.ga K "TooMany")) (.ref (He.ga K "Ground")) = some false
  y_TooMany_TooMany : PySem.W.kitOne K (.ref (He.ga K "TooMany")) (.ref (He.ga K "TooMany")) = some true
  F_is_number : ∃ fd, Fun K "is_number" "is_number" s_is_number (He.ga K "is_number") fd
  F_is_whole : ∃ fd, Fun K "is_whole" "is_whole" s_is_whole (He.ga K "is_whole") fd
  F__law_cell : ∃ fd, Fun K "_law_cell" "_law_cell" s__law_cell (He.ga K "_law_cell") fd
  F__law_box : ∃ fd, Fun K "_law_box" "_law_box" s__law_box (He.ga K "_law_box") fd
  F__law_take : ∃ fd, Fun K "_law_take" "_law_take" s__law_take (He.ga K "_law_take") fd
  F__law_model : ∃ fd, Fun K "_law_model" "_law_model" s__law_model (He.ga K "_law_model") fd
  F__law_standing : ∃ fd, Fun K "_law_standing" "_law_standing" s__law_standing (He.ga K "_law_standing") fd
  F__law_row : ∃ fd, Fun K "_law_row" "_law_row" s__law_row (He.ga K "_law_row") fd
  F__law_begin : ∃ fd, Fun K "_law_begin" "_law_begin" s__law_begin (He.ga K "_law_begin") fd
  F__law_finish : ∃ fd, Fun K "_law_finish" "_law_finish" s__law_finish (He.ga K "_law_finish") fd
  F__law_one : ∃ fd, Fun K "_law_one" "_law_one" s__law_one (He.ga K "_law_one") fd
  F__law_deeds : ∃ fd, Fun K "_law_deeds" "_law_deeds" s__law_deeds (He.ga K "_law_deeds") fd
  F__law_filled : ∃ fd, Fun K "_law_filled" "_law_filled" s__law_filled (He.ga K "_law_filled") fd
  F__law_kinds : ∃ fd, Fun K "_law_kinds" "_law_kinds" s__law_kinds (He.ga K "_law_kinds") fd
  F__law_caught : ∃ fd, Fun K "_law_caught" "_law_caught" s__law_caught (He.ga K "_law_caught") fd
  F__law_due : ∃ fd, Fun K "_law_due" "_law_due" s__law_due (He.ga K "_law_due") fd
  F__law_state : ∃ fd, Fun K "_law_state" "_law_state" s__law_state (He.ga K "_law_state") fd
  F__law_goes_on : ∃ fd, Fun K "_law_goes_on" "_law_goes_on" s__law_goes_on (He.ga K "_law_goes_on") fd
  F__law_things : ∃ fd, Fun K "_law_things" "_law_things" s__law_things (He.ga K "_law_things") fd
  F_law : ∃ fd, Fun K "law" "law" s_law (He.ga K "law") fd
  F_NoFrame___init__ : ∃ fd, Fun K "__init__" "NoFrame.__init__" s_NoFrame___init__ (He.ma K (He.ga K "NoFrame") "__init__") fd
  F_Gone___init__ : ∃ fd, Fun K "__init__" "Gone.__init__" s_Gone___init__ (He.ma K (He.ga K "Gone") "__init__") fd
  F_TooMany___init__ : ∃ fd, Fun K "__init__" "TooMany.__init__" s_TooMany___init__ (He.ma K (He.ga K "TooMany") "__init__") fd
  F_Frames___init__ : ∃ fd, Fun K "__init__" "Frames.__init__" s_Frames___init__ (He.ma K (He.ga K "Frames") "__init__") fd
  F_Frames_need_begun : ∃ fd, Fun K "need_begun" "Frames.need_begun" s_Frames_need_begun (He.ma K (He.ga K "Frames") "need_begun") fd
  F_Frames_need_standing : ∃ fd, Fun K "need_standing" "Frames.need_standing" s_Frames_need_standing (He.ma K (He.ga K "Frames") "need_standing") fd
  F_Frames_need_more : ∃ fd, Fun K "need_more" "Frames.need_more" s_Frames_need_more (He.ma K (He.ga K "Frames") "need_more") fd
  F_Frames_begin : ∃ fd, Fun K "begin" "Frames.begin" s_Frames_begin (He.ma K (He.ga K "Frames") "begin") fd
  F_Frames_finish : ∃ fd, Fun K "finish" "Frames.finish" s_Frames_finish (He.ma K (He.ga K "Frames") "finish") fd
  F_Frames_clear : ∃ fd, Fun K "clear" "Frames.clear" s_Frames_clear (He.ma K (He.ga K "Frames") "clear") fd
  F_Frames_stands : ∃ fd, Fun K "stands" "Frames.stands" s_Frames_stands (He.ma K (He.ga K "Frames") "stands") fd
  F_Frames_inside : ∃ fd, Fun K "inside" "Frames.inside" s_Frames_inside (He.ma K (He.ga K "Frames") "inside") fd
  F_Frames_row : ∃ fd, Fun K "row" "Frames.row" s_Frames_row (He.ma K (He.ga K "Frames") "row") fd
  F_Frames_within : ∃ fd, Fun K "within" "Frames.within" s_Frames_within (He.ma K (He.ga K "Frames") "within") fd
  F_Frames_ended_by : ∃ fd, Fun K "ended_by" "Frames.ended_by" s_Frames_ended_by (He.ma K (He.ga K "Frames") "ended_by") fd
  F_Frames_standing : ∃ fd, Fun K "standing" "Frames.standing" s_Frames_standing (He.ma K (He.ga K "Frames") "standing") fd
  F_Frames_begun : ∃ fd, Fun K "begun" "Frames.begun" s_Frames_begun (He.ma K (He.ga K "Frames") "begun") fd
def d_is_number : He.DefD := ⟨("is_number", none), "is_number", "is_number", defArgs s_is_number, defBody s_is_number, defScope s_is_number, [], []⟩
def d_is_whole : He.DefD := ⟨("is_whole", none), "is_whole", "is_whole", defArgs s_is_whole, defBody s_is_whole, defScope s_is_whole, [], []⟩
def d__law_cell : He.DefD := ⟨("_law_cell", none), "_law_cell", "_law_cell", defArgs s__law_cell, defBody s__law_cell, defScope s__law_cell, [], []⟩
def d__law_box : He.DefD := ⟨("_law_box", none), "_law_box", "_law_box", defArgs s__law_box, defBody s__law_box, defScope s__law_box, [], []⟩
def d__law_take : He.DefD := ⟨("_law_take", none), "_law_take", "_law_take", defArgs s__law_take, defBody s__law_take, defScope s__law_take, [], []⟩
def d__law_model : He.DefD := ⟨("_law_model", none), "_law_model", "_law_model", defArgs s__law_model, defBody s__law_model, defScope s__law_model, [], []⟩
def d__law_standing : He.DefD := ⟨("_law_standing", none), "_law_standing", "_law_standing", defArgs s__law_standing, defBody s__law_standing, defScope s__law_standing, [], []⟩
def d__law_row : He.DefD := ⟨("_law_row", none), "_law_row", "_law_row", defArgs s__law_row, defBody s__law_row, defScope s__law_row, [], []⟩
def d__law_begin : He.DefD := ⟨("_law_begin", none), "_law_begin", "_law_begin", defArgs s__law_begin, defBody s__law_begin, defScope s__law_begin, [], []⟩
def d__law_finish : He.DefD := ⟨("_law_finish", none), "_law_finish", "_law_finish", defArgs s__law_finish, defBody s__law_finish, defScope s__law_finish, [], []⟩
def d__law_one : He.DefD := ⟨("_law_one", none), "_law_one", "_law_one", defArgs s__law_one, defBody s__law_one, defScope s__law_one, [], []⟩
def d__law_deeds : He.DefD := ⟨("_law_deeds", none), "_law_deeds", "_law_deeds", defArgs s__law_deeds, defBody s__law_deeds, defScope s__law_deeds, [], []⟩
def d__law_filled : He.DefD := ⟨("_law_filled", none), "_law_filled", "_law_filled", defArgs s__law_filled, defBody s__law_filled, defScope s__law_filled, [], []⟩
def d__law_kinds : He.DefD := ⟨("_law_kinds", none), "_law_kinds", "_law_kinds", defArgs s__law_kinds, defBody s__law_kinds, defScope s__law_kinds, [], []⟩
def d__law_caught : He.DefD := ⟨("_law_caught", none), "_law_caught", "_law_caught", defArgs s__law_caught, defBody s__law_caught, defScope s__law_caught, [], []⟩
def d__law_due : He.DefD := ⟨("_law_due", none), "_law_due", "_law_due", defArgs s__law_due, defBody s__law_due, defScope s__law_due, [], []⟩
def d__law_state : He.DefD := ⟨("_law_state", none), "_law_state", "_law_state", defArgs s__law_state, defBody s__law_state, defScope s__law_state, [], []⟩
def d__law_goes_on : He.DefD := ⟨("_law_goes_on", none), "_law_goes_on", "_law_goes_on", defArgs s__law_goes_on, defBody s__law_goes_on, defScope s__law_goes_on, [], []⟩
def d__law_things : He.DefD := ⟨("_law_things", none), "_law_things", "_law_things", defArgs s__law_things, defBody s__law_things, defScope s__law_things, [], []⟩
def d_law : He.DefD := ⟨("law", none), "law", "law", defArgs s_law, defBody s_law, defScope s_law, [], []⟩
def d_NoFrame___init__ : He.DefD := ⟨("NoFrame", some "__init__"), "__init__", "NoFrame.__init__", defArgs s_NoFrame___init__, defBody s_NoFrame___init__, defScope s_NoFrame___init__, [], []⟩
def d_Gone___init__ : He.DefD := ⟨("Gone", some "__init__"), "__init__", "Gone.__init__", defArgs s_Gone___init__, defBody s_Gone___init__, defScope s_Gone___init__, [], []⟩
def d_TooMany___init__ : He.DefD := ⟨("TooMany", some "__init__"), "__init__", "TooMany.__init__", defArgs s_TooMany___init__, defBody s_TooMany___init__, defScope s_TooMany___init__, [], []⟩
def d_Frames___init__ : He.DefD := ⟨("Frames", some "__init__"), "__init__", "Frames.__init__", defArgs s_Frames___init__, defBody s_Frames___init__, defScope s_Frames___init__, [], []⟩
def d_Frames_need_begun : He.DefD := ⟨("Frames", some "need_begun"), "need_begun", "Frames.need_begun", defArgs s_Frames_need_begun, defBody s_Frames_need_begun, defScope s_Frames_need_begun, [], []⟩
def d_Frames_need_standing : He.DefD := ⟨("Frames", some "need_standing"), "need_standing", "Frames.need_standing", defArgs s_Frames_need_standing, defBody s_Frames_need_standing, defScope s_Frames_need_standing, [], []⟩
def d_Frames_need_more : He.DefD := ⟨("Frames", some "need_more"), "need_more", "Frames.need_more", defArgs s_Frames_need_more, defBody s_Frames_need_more, defScope s_Frames_need_more, [], []⟩
def d_Frames_begin : He.DefD := ⟨("Frames", some "begin"), "begin", "Frames.begin", defArgs s_Frames_begin, defBody s_Frames_begin, defScope s_Frames_begin, [], []⟩
def d_Frames_finish : He.DefD := ⟨("Frames", some "finish"), "finish", "Frames.finish", defArgs s_Frames_finish, defBody s_Frames_finish, defScope s_Frames_finish, [], []⟩
def d_Frames_clear : He.DefD := ⟨("Frames", some "clear"), "clear", "Frames.clear", defArgs s_Frames_clear, defBody s_Frames_clear, defScope s_Frames_clear, [], []⟩
def d_Frames_stands : He.DefD := ⟨("Frames", some "stands"), "stands", "Frames.stands", defArgs s_Frames_stands, defBody s_Frames_stands, defScope s_Frames_stands, [], []⟩
def d_Frames_inside : He.DefD := ⟨("Frames", some "inside"), "inside", "Frames.inside", defArgs s_Frames_inside, defBody s_Frames_inside, defScope s_Frames_inside, [], []⟩
def d_Frames_row : He.DefD := ⟨("Frames", some "row"), "row", "Frames.row", defArgs s_Frames_row, defBody s_Frames_row, defScope s_Frames_row, [], []⟩
def d_Frames_within : He.DefD := ⟨("Frames", some "within"), "within", "Frames.within", defArgs s_Frames_within, defBody s_Frames_within, defScope s_Frames_within, [], []⟩
def d_Frames_ended_by : He.DefD := ⟨("Frames", some "ended_by"), "ended_by", "Frames.ended_by", defArgs s_Frames_ended_by, defBody s_Frames_ended_by, defScope s_Frames_ended_by, [], []⟩
def d_Frames_standing : He.DefD := ⟨("Frames", some "standing"), "standing", "Frames.standing", defArgs s_Frames_standing, defBody s_Frames_standing, defScope s_Frames_standing, [], []⟩
def d_Frames_begun : He.DefD := ⟨("Frames", some "begun"), "begun", "Frames.begun", defArgs s_Frames_begun, defBody s_Frames_begun, defScope s_Frames_begun, [], []⟩
def fnL : List He.DefD := [d_is_number, d_is_whole, d__law_cell, d__law_box, d__law_take, d__law_model, d__law_standing, d__law_row, d__law_begin, d__law_finish, d__law_one, d__law_deeds, d__law_filled, d__law_kinds, d__law_caught, d__law_due, d__law_state, d__law_goes_on, d__law_things, d_law, d_NoFrame___init__, d_Gone___init__, d_TooMany___init__, d_Frames___init__, d_Frames_need_begun, d_Frames_need_standing, d_Frames_need_more, d_Frames_begin, d_Frames_finish, d_Frames_clear, d_Frames_stands, d_Frames_inside, d_Frames_row, d_Frames_within, d_Frames_ended_by, d_Frames_standing, d_Frames_begun]
def faL : List He.Fa := [.glo "is_number", .glo "is_whole", .glo "_law_cell", .glo "_law_box", .glo "_law_take", .glo "_law_model", .glo "_law_standing", .glo "_law_row", .glo "_law_begin", .glo "_law_finish", .glo "_law_one", .glo "_law_deeds", .glo "_law_filled", .glo "_law_kinds", .glo "_law_caught", .glo "_law_due", .glo "_law_state", .glo "_law_goes_on", .glo "_law_things", .glo "law", .glo "Frames", .glo "NoFrame", .glo "Gone", .glo "Ground", .glo "TooMany", .glo "RoomError", .free "len", .free "range", .free "repr", .free "isinstance", .free "int", .free "bool", .free "max", .free "min", .free "reversed", .free "zip", .free "list", .int "MOST" 100, .cls "Frames", .noat "Frames" "holders", .noat "Frames" "takers", .meth "Frames" "need_begun", .meth "Frames" "need_standing", .meth "Frames" "need_more", .meth "Frames" "begin", .meth "Frames" "finish", .meth "Frames" "clear", .meth "Frames" "stands", .meth "Frames" "inside", .meth "Frames" "row", .meth "Frames" "within", .meth "Frames" "ended_by", .meth "Frames" "standing", .meth "Frames" "begun", .mkr "Frames"]
def exL : List Xa := [.oex "NoFrame" ["found"], .oex "Gone" ["found", "by"], .zer "Ground", .oex "TooMany" ["many"], .exm "NoFrame" "RoomError" true, .exm "Gone" "RoomError" true, .exm "Ground" "RoomError" true, .exm "TooMany" "RoomError" true, .isi "NoFrame" "NoFrame" true, .isi "NoFrame" "Gone" false, .isi "NoFrame" "Ground" false, .isi "NoFrame" "TooMany" false, .isi "Gone" "NoFrame" false, .isi "Gone" "Gone" true, .isi "Gone" "Ground" false, .isi "Gone" "TooMany" false, .isi "Ground" "NoFrame" false, .isi "Ground" "Gone" false, .isi "Ground" "Ground" true, .isi "Ground" "TooMany" false, .isi "TooMany" "NoFrame" false, .isi "TooMany" "Gone" false, .isi "TooMany" "Ground" false, .isi "TooMany" "TooMany" true]
def exF (K : PySem.W.Frag) : Bool := exL.all fun x => x.ok K
theorem tx_of {K : PySem.W.Frag} {h : Heap} {mg : Str → Option Value} (X : K.In h) (G : h.Ns mainGlobals mg) (c : He.SaysD faL fnL K) (hx : (exL.all fun x => x.ok K) = true) : Tx K mg := ⟨
(He.glo_ok X G (c.fact 0 (f := .glo "is_number") rfl)),
  (He.glo_ok X G (c.fact 1 (f := .glo "is_whole") rfl)),
  (He.glo_ok X G (c.fact 2 (f := .glo "_law_cell") rfl)),
  (He.glo_ok X G (c.fact 3 (f := .glo "_law_box") rfl)),
  (He.glo_ok X G (c.fact 4 (f := .glo "_law_take") rfl)),
  (He.glo_ok X G (c.fact 5 (f := .glo "_law_model") rfl)),
  (He.glo_ok X G (c.fact 6 (f := .glo "_law_standing") rfl)),
  (He.glo_ok X G (c.fact 7 (f := .glo "_law_row") rfl)),
  (He.glo_ok X G (c.fact 8 (f := .glo "_law_begin") rfl)),
  (He.glo_ok X G (c.fact 9 (f := .glo "_law_finish") rfl)),
  (He.glo_ok X G (c.fact 10 (f := .glo "_law_one") rfl)),
  (He.glo_ok X G (c.fact 11 (f := .glo "_law_deeds") rfl)),
  (He.glo_ok X G (c.fact 12 (f := .glo "_law_filled") rfl)),
  (He.glo_ok X G (c.fact 13 (f := .glo "_law_kinds") rfl)),
  (He.glo_ok X G (c.fact 14 (f := .glo "_law_caught") rfl)),
  (He.glo_ok X G (c.fact 15 (f := .glo "_law_due") rfl)),
  (He.glo_ok X G (c.fact 16 (f := .glo "_law_state") rfl)),
  (He.glo_ok X G (c.fact 17 (f := .glo "_law_goes_on") rfl)),
  (He.glo_ok X G (c.fact 18 (f := .glo "_law_things") rfl)),
  (He.glo_ok X G (c.fact 19 (f := .glo "law") rfl)),
  (He.glo_ok X G (c.fact 20 (f := .glo "Frames") rfl)),
  (He.glo_ok X G (c.fact 21 (f := .glo "NoFrame") rfl)),
  (He.glo_ok X G (c.fact 22 (f := .glo "Gone") rfl)),
  (He.glo_ok X G (c.fact 23 (f := .glo "Ground") rfl)),
  (He.glo_ok X G (c.fact 24 (f := .glo "TooMany") rfl)),
  (He.glo_ok X G (c.fact 25 (f := .glo "RoomError") rfl)),
  (He.free_ok X G (c.fact 26 (f := .free "len") rfl)),
  (He.free_ok X G (c.fact 27 (f := .free "range") rfl)),
  (He.free_ok X G (c.fact 28 (f := .free "repr") rfl)),
  (He.free_ok X G (c.fact 29 (f := .free "isinstance") rfl)),
  (He.free_ok X G (c.fact 30 (f := .free "int") rfl)),
  (He.free_ok X G (c.fact 31 (f := .free "bool") rfl)),
  (He.free_ok X G (c.fact 32 (f := .free "max") rfl)),
  (He.free_ok X G (c.fact 33 (f := .free "min") rfl)),
  (He.free_ok X G (c.fact 34 (f := .free "reversed") rfl)),
  (He.free_ok X G (c.fact 35 (f := .free "zip") rfl)),
  (He.free_ok X G (c.fact 36 (f := .free "list") rfl)),
  (He.int_ok X G (c.fact 37 (f := .int "MOST" 100) rfl)),
  (He.cls_ok (c.fact 38 (f := .cls "Frames") rfl)),
  (He.noat_ok (c.fact 39 (f := .noat "Frames" "holders") rfl)),
  (He.noat_ok (c.fact 40 (f := .noat "Frames" "takers") rfl)),
  (He.meth_ok (c.fact 41 (f := .meth "Frames" "need_begun") rfl)),
  (He.meth_ok (c.fact 42 (f := .meth "Frames" "need_standing") rfl)),
  (He.meth_ok (c.fact 43 (f := .meth "Frames" "need_more") rfl)),
  (He.meth_ok (c.fact 44 (f := .meth "Frames" "begin") rfl)),
  (He.meth_ok (c.fact 45 (f := .meth "Frames" "finish") rfl)),
  (He.meth_ok (c.fact 46 (f := .meth "Frames" "clear") rfl)),
  (He.meth_ok (c.fact 47 (f := .meth "Frames" "stands") rfl)),
  (He.meth_ok (c.fact 48 (f := .meth "Frames" "inside") rfl)),
  (He.meth_ok (c.fact 49 (f := .meth "Frames" "row") rfl)),
  (He.meth_ok (c.fact 50 (f := .meth "Frames" "within") rfl)),
  (He.meth_ok (c.fact 51 (f := .meth "Frames" "ended_by") rfl)),
  (He.meth_ok (c.fact 52 (f := .meth "Frames" "standing") rfl)),
  (He.meth_ok (c.fact 53 (f := .meth "Frames" "begun") rfl)),
  (He.mkr_ok (c.fact 54 (f := .mkr "Frames") rfl)),
  (oex_ok (c := "NoFrame") (fs := ["found"]) (xa_at hx 0 rfl)),
  (oex_ok (c := "Gone") (fs := ["found", "by"]) (xa_at hx 1 rfl)),
  (zer_ok (c := "Ground") (xa_at hx 2 rfl)),
  (oex_ok (c := "TooMany") (fs := ["many"]) (xa_at hx 3 rfl)),
  (exm_ok (c := "NoFrame") (d := "RoomError") (xa_at hx 4 rfl)),
  (exm_ok (c := "Gone") (d := "RoomError") (xa_at hx 5 rfl)),
  (exm_ok (c := "Ground") (d := "RoomError") (xa_at hx 6 rfl)),
  (exm_ok (c := "TooMany") (d := "RoomError") (xa_at hx 7 rfl)),
  (isi_ok (c := "NoFrame") (d := "NoFrame") (xa_at hx 8 rfl)),
  (isi_ok (c := "NoFrame") (d := "Gone") (xa_at hx 9 rfl)),
  (isi_ok (c := "NoFrame") (d := "Ground") (xa_at hx 10 rfl)),
  (isi_ok (c := "NoFrame") (d := "TooMany") (xa_at hx 11 rfl)),
  (isi_ok (c := "Gone") (d := "NoFrame") (xa_at hx 12 rfl)),
  (isi_ok (c := "Gone") (d := "Gone") (xa_at hx 13 rfl)),
  (isi_ok (c := "Gone") (d := "Ground") (xa_at hx 14 rfl)),
  (isi_ok (c := "Gone") (d := "TooMany") (xa_at hx 15 rfl)),
  (isi_ok (c := "Ground") (d := "NoFrame") (xa_at hx 16 rfl)),
  (isi_ok (c := "Ground") (d := "Gone") (xa_at hx 17 rfl)),
  (isi_ok (c := "Ground") (d := "Ground") (xa_at hx 18 rfl)),
  (isi_ok (c := "Ground") (d := "TooMany") (xa_at hx 19 rfl)),
  (isi_ok (c := "TooMany") (d := "NoFrame") (xa_at hx 20 rfl)),
  (isi_ok (c := "TooMany") (d := "Gone") (xa_at hx 21 rfl)),
  (isi_ok (c := "TooMany") (d := "Ground") (xa_at hx 22 rfl)),
  (isi_ok (c := "TooMany") (d := "TooMany") (xa_at hx 23 rfl)),
  (let ⟨fd, h⟩ := c.def_ 0 (d := d_is_number) rfl; ⟨fd, FG.toFun (st := s_is_number) h⟩),
  (let ⟨fd, h⟩ := c.def_ 1 (d := d_is_whole) rfl; ⟨fd, FG.toFun (st := s_is_whole) h⟩),
  (let ⟨fd, h⟩ := c.def_ 2 (d := d__law_cell) rfl; ⟨fd, FG.toFun (st := s__law_cell) h⟩),
  (let ⟨fd, h⟩ := c.def_ 3 (d := d__law_box) rfl; ⟨fd, FG.toFun (st := s__law_box) h⟩),
  (let ⟨fd, h⟩ := c.def_ 4 (d := d__law_take) rfl; ⟨fd, FG.toFun (st := s__law_take) h⟩),
  (let ⟨fd, h⟩ := c.def_ 5 (d := d__law_model) rfl; ⟨fd, FG.toFun (st := s__law_model) h⟩),
  (let ⟨fd, h⟩ := c.def_ 6 (d := d__law_standing) rfl; ⟨fd, FG.toFun (st := s__law_standing) h⟩),
  (let ⟨fd, h⟩ := c.def_ 7 (d := d__law_row) rfl; ⟨fd, FG.toFun (st := s__law_row) h⟩),
  (let ⟨fd, h⟩ := c.def_ 8 (d := d__law_begin) rfl; ⟨fd, FG.toFun (st := s__law_begin) h⟩),
  (let ⟨fd, h⟩ := c.def_ 9 (d := d__law_finish) rfl; ⟨fd, FG.toFun (st := s__law_finish) h⟩),
  (let ⟨fd, h⟩ := c.def_ 10 (d := d__law_one) rfl; ⟨fd, FG.toFun (st := s__law_one) h⟩),
  (let ⟨fd, h⟩ := c.def_ 11 (d := d__law_deeds) rfl; ⟨fd, FG.toFun (st := s__law_deeds) h⟩),
  (let ⟨fd, h⟩ := c.def_ 12 (d := d__law_filled) rfl; ⟨fd, FG.toFun (st := s__law_filled) h⟩),
  (let ⟨fd, h⟩ := c.def_ 13 (d := d__law_kinds) rfl; ⟨fd, FG.toFun (st := s__law_kinds) h⟩),
  (let ⟨fd, h⟩ := c.def_ 14 (d := d__law_caught) rfl; ⟨fd, FG.toFun (st := s__law_caught) h⟩),
  (let ⟨fd, h⟩ := c.def_ 15 (d := d__law_due) rfl; ⟨fd, FG.toFun (st := s__law_due) h⟩),
  (let ⟨fd, h⟩ := c.def_ 16 (d := d__law_state) rfl; ⟨fd, FG.toFun (st := s__law_state) h⟩),
  (let ⟨fd, h⟩ := c.def_ 17 (d := d__law_goes_on) rfl; ⟨fd, FG.toFun (st := s__law_goes_on) h⟩),
  (let ⟨fd, h⟩ := c.def_ 18 (d := d__law_things) rfl; ⟨fd, FG.toFun (st := s__law_things) h⟩),
  (let ⟨fd, h⟩ := c.def_ 19 (d := d_law) rfl; ⟨fd, FG.toFun (st := s_law) h⟩),
  (let ⟨fd, h⟩ := c.def_ 20 (d := d_NoFrame___init__) rfl; ⟨fd, FG.toFun (st := s_NoFrame___init__) h⟩),
  (let ⟨fd, h⟩ := c.def_ 21 (d := d_Gone___init__) rfl; ⟨fd, FG.toFun (st := s_Gone___init__) h⟩),
  (let ⟨fd, h⟩ := c.def_ 22 (d := d_TooMany___init__) rfl; ⟨fd, FG.toFun (st := s_TooMany___init__) h⟩),
  (let ⟨fd, h⟩ := c.def_ 23 (d := d_Frames___init__) rfl; ⟨fd, FG.toFun (st := s_Frames___init__) h⟩),
  (let ⟨fd, h⟩ := c.def_ 24 (d := d_Frames_need_begun) rfl; ⟨fd, FG.toFun (st := s_Frames_need_begun) h⟩),
  (let ⟨fd, h⟩ := c.def_ 25 (d := d_Frames_need_standing) rfl; ⟨fd, FG.toFun (st := s_Frames_need_standing) h⟩),
  (let ⟨fd, h⟩ := c.def_ 26 (d := d_Frames_need_more) rfl; ⟨fd, FG.toFun (st := s_Frames_need_more) h⟩),
  (let ⟨fd, h⟩ := c.def_ 27 (d := d_Frames_begin) rfl; ⟨fd, FG.toFun (st := s_Frames_begin) h⟩),
  (let ⟨fd, h⟩ := c.def_ 28 (d := d_Frames_finish) rfl; ⟨fd, FG.toFun (st := s_Frames_finish) h⟩),
  (let ⟨fd, h⟩ := c.def_ 29 (d := d_Frames_clear) rfl; ⟨fd, FG.toFun (st := s_Frames_clear) h⟩),
  (let ⟨fd, h⟩ := c.def_ 30 (d := d_Frames_stands) rfl; ⟨fd, FG.toFun (st := s_Frames_stands) h⟩),
  (let ⟨fd, h⟩ := c.def_ 31 (d := d_Frames_inside) rfl; ⟨fd, FG.toFun (st := s_Frames_inside) h⟩),
  (let ⟨fd, h⟩ := c.def_ 32 (d := d_Frames_row) rfl; ⟨fd, FG.toFun (st := s_Frames_row) h⟩),
  (let ⟨fd, h⟩ := c.def_ 33 (d := d_Frames_within) rfl; ⟨fd, FG.toFun (st := s_Frames_within) h⟩),
  (let ⟨fd, h⟩ := c.def_ 34 (d := d_Frames_ended_by) rfl; ⟨fd, FG.toFun (st := s_Frames_ended_by) h⟩),
  (let ⟨fd, h⟩ := c.def_ 35 (d := d_Frames_standing) rfl; ⟨fd, FG.toFun (st := s_Frames_standing) h⟩),
  (let ⟨fd, h⟩ := c.def_ 36 (d := d_Frames_begun) rfl; ⟨fd, FG.toFun (st := s_Frames_begun) h⟩)⟩
end Lw
namespace Lw
open PySem PySem.Spec L2 FG
open PyProof.Rows hiding St
section
variable {P : Program} {w : World} {K : PySem.W.Frag} {mg : Str → Option Value} {base : Heap}
theorem rai_NoFrame (T : Tx K mg) : Rai P w K mg base "NoFrame" (He.ga K "NoFrame") ["found"] := by
  refine Rai.of T.x_NoFrame T.g_NoFrame T.F_NoFrame___init__ (fun F => F.binds (ps := ["self", "found"]) fun _ _ _ _ _ _ us hl => match us, hl with | [_, _], _ => rfl) fun F => FnG.of F sc_NoFrame___init__ (fun vs H Q E h => ?_) (fun cdv A outer s H vs Q E hr h => ?_) (ps := ["self", "found"])
  · obtain ⟨a, C, ys, rfl, hl, _⟩ := h; simpa using hl
  · obtain ⟨a, C, ys, rfl, hl, xc, ea, q⟩ := h
    match ys, hl with
    | [y], _ =>
      refine ⟨_, pss_one (ps_ost (pv 0) (pv 1)), ?_⟩
      refine ⟨_, rfl, _, rfl, a, C, rfl, xc.o, xc.no _ (by decide +kernel), .inl ⟨ea, fun d hd nd => ?_⟩⟩
      exact q d _ hd nd upd_same ((upd_ne nd).trans upd_same) fun b h1 h2 => (upd_ne h1).trans (upd_ne h2)
theorem rai_Gone (T : Tx K mg) : Rai P w K mg base "Gone" (He.ga K "Gone") ["found", "by"] := by
  refine Rai.of T.x_Gone T.g_Gone T.F_Gone___init__ (fun F => F.binds (ps := ["self", "found", "by"]) fun _ _ _ _ _ _ us hl => match us, hl with | [_, _, _], _ => rfl) fun F => FnG.of F sc_Gone___init__ (fun vs H Q E h => ?_) (fun cdv A outer s H vs Q E hr h => ?_) (ps := ["self", "found", "by"])
  · obtain ⟨a, C, ys, rfl, hl, _⟩ := h; simpa using hl
  · obtain ⟨a, C, ys, rfl, hl, xc, ea, q⟩ := h
    match ys, hl with
    | [y, z], _ =>
      refine ⟨_, pss_cons (ps_ost (pv 0) (pv 1)) (pss_one (ps_ost (pv 0) (pv 2))), ?_⟩
      refine ⟨_, rfl, _, rfl, a, C, rfl, xc.o, xc.no _ (by decide +kernel), .inl ⟨ea, fun d hd nd => ?_⟩⟩
      refine ⟨_, rfl, _, rfl, a, C, rfl, xc.o, xc.no _ (by decide +kernel), .inr ⟨d, _, upd_same, (upd_ne nd).trans upd_same, (by show 1 ≤ 900; decide), ?_⟩⟩
      exact q d _ hd nd ((upd_ne nd.symm).trans upd_same) upd_same fun b h1 h2 => (upd_ne h2).trans ((upd_ne h1).trans (upd_ne h2))
theorem rai_TooMany (T : Tx K mg) : Rai P w K mg base "TooMany" (He.ga K "TooMany") ["many"] := by
  refine Rai.of T.x_TooMany T.g_TooMany T.F_TooMany___init__ (fun F => F.binds (ps := ["self", "many"]) fun _ _ _ _ _ _ us hl => match us, hl with | [_, _], _ => rfl) fun F => FnG.of F sc_TooMany___init__ (fun vs H Q E h => ?_) (fun cdv A outer s H vs Q E hr h => ?_) (ps := ["self", "many"])
  · obtain ⟨a, C, ys, rfl, hl, _⟩ := h; simpa using hl
  · obtain ⟨a, C, ys, rfl, hl, xc, ea, q⟩ := h
    match ys, hl with
    | [y], _ =>
      refine ⟨_, pss_one (ps_ost (pv 0) (pv 1)), ?_⟩
      refine ⟨_, rfl, _, rfl, a, C, rfl, xc.o, xc.no _ (by decide +kernel), .inl ⟨ea, fun d hd nd => ?_⟩⟩
      exact q d _ hd nd upd_same ((upd_ne nd).trans upd_same) fun b h1 h2 => (upd_ne h1).trans (upd_ne h2)
end
end Lw
namespace Lw
open PySem PySem.Spec L2 FG
open PyProof.Rows hiding St
def names0 : List PySem.Str := ["__name__", "RoomError", "NoFrame", "Gone", "Ground", "TooMany", "is_number", "is_whole", "MOST", "Frames", "_law_cell", "_law_box", "_law_take", "_law_model", "_law_standing", "_law_row", "_law_begin", "_law_finish", "_law_one", "_law_deeds", "_law_filled", "_law_kinds", "_law_caught", "_law_due", "_law_state"]
def names1 : List PySem.Str := ["_law_goes_on", "_law_things"]
abbrev Rw : PySem.W.OpenRow := PySem.W.OpenLaw.row PySem.Challenge.rw_framerooms_k07_frames_refused
abbrev hk : PySem.W.Hook := hookY 6 faL fnL exF
def ob (s : PySem.W.SharedT) : He.AlD × Bool := obsY 6 faL fnL exF (HandSHeadRun.getT s)
theorem ob_eq (s : PySem.W.SharedT) : ob s = hk.obs s.abs := obsY_eq (HandSHeadRun.getT_eq s)
theorem run (w : World) : HandSHeadRun.RunEq Rw (PySem.W.view Rw.prog [30]) hk ob 6000 (names0 ++ names1) w := by
  intro os
  kernel_rfl

end Lw
namespace Lw
open PySem PySem.Spec L2 FG
open PyProof.Rows hiding St
/-! ### the law's draws: a cell, a box, a take -/
/-- at b a box that has been asked at most n times behind its digits -/
def BoxAt (H : Hp) (b : Addr) (n : Int) : Prop := ∃ x y c : Int, H b = some (.lst [.int x, .int y, .int c]) ∧ 0 ≤ x ∧ 0 ≤ y ∧ y < 2147483629 ∧ 0 ≤ c ∧ c ≤ n
/-- all but b is as it was -/
def But (b : Addr) (H H' : Hp) : Prop := ∀ a, a ≠ b → H' a = H a
def spCell (K : PySem.W.Frag) : Sp := fun vs H Q _ => ∃ (a : Addr) (ns : List Int) (k : Nat), vs = [.ref a, .int k] ∧ SqL K H a (ns.map V.int) ∧ ∀ z : Int, Q (.int z) H
def spBox : Sp := fun vs H Q _ => ∃ z : Int, vs = [.int z] ∧ ∀ b H', H b = none → But b H H' → BoxAt H' b 0 → Q (.ref b) H'
def spTake : Sp := fun vs H Q _ => ∃ (b : Addr) (n m : Int), vs = [.ref b, .int m] ∧ BoxAt H b n ∧ n < 1000000000 ∧ 0 < m ∧ m < 2 ^ 60 ∧
  ∀ H' (d : Int), But b H H' → BoxAt H' b (n + 1) → 0 ≤ d → d < m → Q (.int d) H'
section
variable {P : Program} {w : World} {K : PySem.W.Frag} {mg : Str → Option Value} {base : Heap}
theorem ok_cell (T : Tx K mg) {fd : FuncData} (F : Fun K "_law_cell" "_law_cell" s__law_cell (He.ga K "_law_cell") fd) : FnG P w K mg base 1 (He.ga K "_law_cell") fd ["_law_script", "_law_k"] (spCell K) := by
  refine FnG.of F sc__law_cell (fun vs H Q E h => ?_) (fun cdv A outer s H vs Q E hr h => ?_)
  · obtain ⟨a, ns, k, rfl, _⟩ := h; rfl
  · obtain ⟨a, ns, k, rfl, hS, q⟩ := h
    refine ⟨_, pss_cons (ps_if (pt_cmpR op_lt (pv 1) (pe_callB (klen K) (by rfl) T.z_len PySem.boot_len (pa_cons (pv 0) (pa_nil))) (by first | exact nomark _ | rfl)) (pss_one (ps_ret (pe_ix (kixL K) (pv 0) (pv 1) (fun _ _ => rfl)))) (pss_nil))
      (pss_one (ps_ret (pe_op op_add (pe_op op_mul (pe_int) (pv 1)) (pe_int)))), ?_⟩
    refine ⟨_, rfl, _, rfl, a, _, rfl, .inl hS, _, _, rfl, rfl, _, rfl, ?_⟩
    refine ite2 (fun hlt => ?_) (fun hge => ?_)
    · have hk : k < ns.length := by simpa using hlt
      refine ⟨_, rfl, _, rfl, a, _, _, .int ns[k], rfl, rfl, hS, ?_, q _⟩
      exact atI_nat (by rw [List.getElem?_map, List.getElem?_eq_getElem hk]; rfl)
    · refine ⟨_, rfl, _, _, rfl, rfl, .inl ⟨by decide, by decide⟩, _, _, rfl, rfl, q _⟩
theorem ok_box (T : Tx K mg) {fd : FuncData} (F : Fun K "_law_box" "_law_box" s__law_box (He.ga K "_law_box") fd) : FnG P w K mg base 1 (He.ga K "_law_box") fd ["_law_cell_here"] spBox := by
  refine FnG.of F sc__law_box (fun vs H Q E h => ?_) (fun cdv A outer s H vs Q E hr h => ?_)
  · obtain ⟨z, rfl, _⟩ := h; rfl
  · obtain ⟨z, rfl, q⟩ := h
    refine ⟨_, pss_one (ps_ret (pe_lst (pa_cons (pe_callB (call_max2 rfl) (by rfl) T.z_max (by decide +kernel) (pa_cons (pe_int) (pa_cons (pe_op op_sub (pv 0) (pe_op op_pow (pe_int) (pe_int))) (pa_nil)))) (pa_cons (pe_op op_mod (pv 0) (pe_int)) (pa_cons (pe_int) (pa_nil)))))), ?_⟩
    refine ⟨_, rfl, _, _, rfl, rfl, ⟨by decide, by decide, by decide⟩, _, _, rfl, rfl, _, _, rfl, ?_⟩
    refine ⟨_, rfl, _, _, rfl, rfl, (by show (0 : Int) < 2147483629; decide), (by show 3 ≤ sizeLine; decide), fun b hb => q b _ hb (fun a ha => upd_ne ha) ⟨_, _, _, upd_same, ?_, ?_, ?_, by decide, by decide⟩⟩
    · split <;> omega
    · exact Int.emod_nonneg _ (by decide)
    · exact Int.emod_lt_of_pos _ (by decide)
theorem ok_take (T : Tx K mg) {fd : FuncData} (F : Fun K "_law_take" "_law_take" s__law_take (He.ga K "_law_take") fd) : FnG P w K mg base 1 (He.ga K "_law_take") fd ["_law_box_here", "_law_many"] spTake := by
  refine FnG.of F sc__law_take (fun vs H Q E h => ?_) (fun cdv A outer s H vs Q E hr h => ?_)
  · obtain ⟨b, n, m, rfl, _⟩ := h; rfl
  · obtain ⟨b, n, m, rfl, ⟨x, y, c, hb, hx, hy, hy2, hc, hcn⟩, hn, hm, hm2, q⟩ := h
    refine ⟨_, pss_cons (ps_if (pt_cmpR op_gt (pe_ix (kixL K) (pv 0) (pe_int) (fun _ _ => rfl)) (pe_int) (by first | exact nomark _ | rfl)) (pss_cons (ps_set (i := 2) sc__law_take.nd rfl (by first | exact Or.inl rfl | exact Or.inr rfl) (pe_op op_mod (pe_ix (kixL K) (pv 0) (pe_int) (fun _ _ => rfl)) (pv 1)))
      (pss_cons (ps_asg (pe_op op_fdivW (pe_ix (kixL K) (pv 0) (pe_int) (fun _ _ => rfl)) (pv 1)) (pg_sub (pv 0) (pe_int) set_list))
      (pss_one (ps_ret (pv 2))))) (pss_nil))
      (pss_cons (ps_asg (pe_op op_add (pe_ix (kixL K) (pv 0) (pe_int) (fun _ _ => rfl)) (pe_int)) (pg_sub (pv 0) (pe_int) set_list))
      (pss_cons (ps_set (i := 3) sc__law_take.nd rfl (by first | exact Or.inl rfl | exact Or.inr rfl) (pe_op op_mod (pe_op op_pow (pe_op op_add (pe_op op_add (pe_ix (kixL K) (pv 0) (pe_int) (fun _ _ => rfl)) (pe_op op_mul (pe_int) (pe_ix (kixL K) (pv 0) (pe_int) (fun _ _ => rfl)))) (pe_int)) (pe_int)) (pe_int)))
      (pss_cons (ps_set (i := 4) sc__law_take.nd rfl (by first | exact Or.inl rfl | exact Or.inr rfl) (pe_op op_mod (pe_op op_pow (pe_op op_add (pe_op op_add (pe_op op_fdiv (pv 3) (pe_int)) (pe_op op_mul (pe_int) (pe_ix (kixL K) (pv 0) (pe_int) (fun _ _ => rfl)))) (pe_int)) (pe_int)) (pe_int)))
      (pss_one (ps_ret (pe_op op_mod (pe_op op_add (pe_op op_fdiv (pv 3) (pe_int)) (pe_op op_mul (pe_int) (pe_op op_fdiv (pv 4) (pe_int)))) (pv 1))))))), ?_⟩
    refine ⟨_, rfl, _, _, _, _, rfl, rfl, SqL.of hb, rfl, _, _, rfl, rfl, _, rfl, ?_⟩
    refine ite2 (fun h0 => ?_) (fun h0 => ?_)
    · refine ⟨_, rfl, _, _, _, _, rfl, rfl, SqL.of hb, rfl, _, rfl, _, _, rfl, rfl, hm, ?_⟩
      refine ⟨_, rfl, _, _, _, _, rfl, rfl, SqL.of hb, rfl, _, rfl, _, _, rfl, rfl, wide_div hm (b := 60) (by omega) (by decide) (by decide), ?_⟩
      refine ⟨_, rfl, _, _, _, 0, rfl, rfl, hb, rfl, ?_⟩
      refine ⟨_, rfl, q _ _ (fun a ha => upd_ne ha) ⟨_, _, _, upd_same, Int.ediv_nonneg hx (by omega), hy, hy2, hc, by omega⟩ (Int.emod_nonneg _ (by omega)) (Int.emod_lt_of_pos _ hm)⟩
    · have e : x = 0 := by
        have z : ¬ (0 < x) := by simpa using h0
        omega
      subst e
      -- box[2] = box[2] + 1
      refine ⟨_, rfl, _, _, _, _, rfl, rfl, SqL.of hb, rfl, _, _, rfl, rfl, _, rfl, _, _, _, 2, rfl, rfl, hb, rfl, ?_⟩
      have hb2 : (upd H b (.lst [.int 0, .int y, .int (c + 1)])) b = some (.lst [.int 0, .int y, .int (c + 1)]) := upd_same
      refine ⟨_, rfl, _, _, _, _, rfl, rfl, SqL.of hb2, rfl, _, rfl, _, _, _, _, rfl, rfl, SqL.of hb2, rfl, _, _, rfl, rfl, .inl ⟨by decide, by decide⟩, _, _, rfl, rfl, _, _, rfl, rfl, _, _, rfl, rfl, ⟨by decide, by decide, ?_⟩, _, _, rfl, rfl, (by show (0 : Int) < 2147483647; decide), ?_⟩
      · show (y + 7919 * (c + 1) + 29).natAbs < 2 ^ 64
        omega
      obtain ⟨u, h1⟩ : ∃ u, u = (y + 7919 * (c + 1) + 29) ^ Int.toNat 5 % 2147483647 := ⟨_, rfl⟩
      have u0 : 0 ≤ u := h1 ▸ Int.emod_nonneg _ (by decide)
      have u1 : u < 2147483647 := h1 ▸ Int.emod_lt_of_pos _ (by decide)
      refine ⟨_, rfl, _, _, rfl, rfl, ⟨by decide, by decide⟩, _, rfl, _, _, _, _, rfl, rfl, SqL.of hb2, rfl, _, _, rfl, rfl, .inl ⟨by decide, by decide⟩, _, _, rfl, rfl, _, _, rfl, rfl, _, _, rfl, rfl, ⟨by decide, by decide, ?_⟩, _, _, rfl, rfl, (by show (0 : Int) < 2147483629; decide), ?_⟩
      · show ((y + 7919 * (c + 1) + 29) ^ Int.toNat 5 % 2147483647 / 8 + 104729 * (c + 1) + 3).natAbs < 2 ^ 64
        rw [← h1]
        omega
      refine ⟨_, rfl, _, _, rfl, rfl, ⟨by decide, by decide⟩, _, rfl, _, _, rfl, rfl, ⟨by decide, by decide⟩, _, _, rfl, rfl, .inl ⟨by decide, by decide⟩, _, _, rfl, rfl, _, rfl, _, _, rfl, rfl, hm, ?_⟩
      exact q _ _ (fun a ha => upd_ne ha) ⟨_, _, _, hb2, Int.le_refl 0, hy, hy2, by omega, by omega⟩ (Int.emod_nonneg _ (by omega)) (Int.emod_lt_of_pos _ hm)
end

end Lw
namespace Lw
open PySem PySem.Spec L2 FG
open PyProof.Rows hiding St
/-! ### frames as plain lists: hs the frames straight around, ts those that were ended to take them -/
def enc : Option Int → V
  | none => .non
  | some i => .int i
def nint (n : Nat) : V := .int (n : Int)
/-- the numbers that stand, rising -/
def stand (ts : List (Option Int)) : List Nat := (List.range ts.length).filter fun i => decide (ts[i]? = some none)
/-- the row from the ground -/
def rowW (hs : List (Option Int)) (i : Nat) : List Nat := match hs[i]? with
  | some (some j) => if j.toNat < i then rowW hs j.toNat ++ [i] else [i]
  | _ => [i]
termination_by i
/-- all that end with f, falling -/
def fin (hs ts : List (Option Int)) (f : Nat) : List Nat := (stand ts).reverse.filter fun k => decide (f ∈ rowW hs k)
/-- taken by f -/
def taken (ts : List (Option Int)) (ks : List Nat) (f : Nat) : List (Option Int) := ks.foldl (fun t k => t.set k (some (f : Int))) ts
structure Wf (hs ts : List (Option Int)) : Prop where
  len : ts.length = hs.length
  pos : 0 < hs.length
  small : hs.length ≤ 101
  root : hs[0]? = some none
  up : ∀ i, 0 < i → i < hs.length → ∃ j : Nat, hs[i]? = some (some (j : Int)) ∧ j < i
theorem wf0 : Wf [none] [none] := ⟨rfl, by decide, by decide, rfl, fun i h1 h2 => by simp at h2; omega⟩
theorem taken_len (ks : List Nat) (f : Nat) : ∀ ts, (taken ts ks f).length = ts.length := by
  induction ks with
  | nil => intro ts; rfl
  | cons k ks ih => intro ts; exact (ih _).trans (List.length_set)
theorem Wf.taken {hs ts : List (Option Int)} (w : Wf hs ts) (ks : List Nat) (f : Nat) : Wf hs (Lw.taken ts ks f) := ⟨(taken_len ks f ts).trans w.len, w.pos, w.small, w.root, w.up⟩
theorem Wf.begun {hs ts : List (Option Int)} (w : Wf hs ts) {f : Nat} (hf : f < hs.length) (h100 : hs.length ≤ 100) : Wf (hs ++ [some (f : Int)]) (ts ++ [none]) := by
  refine ⟨by simp [w.len], by simp, by simp; omega, ?_, fun i h0 h1 => ?_⟩
  · rw [List.getElem?_append_left w.pos]; exact w.root
  · by_cases h : i < hs.length
    · rw [List.getElem?_append_left h]; exact w.up i h0 h
    · have e : i = hs.length := by simp at h1; omega
      subst e
      exact ⟨f, by simp, hf⟩
theorem row_root {hs ts : List (Option Int)} (w : Wf hs ts) : rowW hs 0 = [0] := by rw [rowW, w.root]
theorem row_up {hs : List (Option Int)} {i j : Nat} (h : hs[i]? = some (some (j : Int))) (hj : j < i) : rowW hs i = rowW hs j ++ [i] := by
  rw [rowW, h]
  show (if (j : Int).toNat < i then rowW hs (j : Int).toNat ++ [i] else [i]) = _
  rw [Int.toNat_natCast, if_pos hj]
theorem row_len {hs ts : List (Option Int)} (w : Wf hs ts) : ∀ n i, i < n → i < hs.length → (rowW hs i).length ≤ i + 1 := by
  intro n
  induction n with
  | zero => intro i h; omega
  | succ n ih =>
    intro i h hi
    by_cases h0 : i = 0
    · subst h0; rw [row_root w]; simp
    · obtain ⟨j, e, hj⟩ := w.up i (by omega) hi
      rw [row_up e hj, List.length_append]
      have := ih j (by omega) (by omega)
      simp; omega
theorem row_lt {hs ts : List (Option Int)} (w : Wf hs ts) : ∀ n i, i < n → i < hs.length → ∀ k ∈ rowW hs i, k ≤ i := by
  intro n
  induction n with
  | zero => intro i h; omega
  | succ n ih =>
    intro i h hi k hk
    by_cases h0 : i = 0
    · subst h0; rw [row_root w] at hk; simp at hk; omega
    · obtain ⟨j, e, hj⟩ := w.up i (by omega) hi
      rw [row_up e hj] at hk
      rcases List.mem_append.mp hk with hk | hk
      · have := ih j (by omega) (by omega) k hk; omega
      · simp at hk; omega
theorem mem_stand {ts : List (Option Int)} {i : Nat} : i ∈ stand ts ↔ ts[i]? = some none := by
  unfold stand
  rw [List.mem_filter, List.mem_range]
  constructor
  · rintro ⟨_, h⟩; exact of_decide_eq_true h
  · intro h
    exact ⟨(List.getElem?_eq_some_iff.mp h).1, decide_eq_true h⟩
theorem stand_len (ts : List (Option Int)) : (stand ts).length ≤ ts.length := by
  unfold stand
  exact Nat.le_trans (List.length_filter_le _ _) (by simp)
theorem fin_stand {hs ts : List (Option Int)} {f k : Nat} (h : k ∈ fin hs ts f) : ts[k]? = some none := by
  unfold fin at h
  rw [List.mem_filter, List.mem_reverse] at h
  exact mem_stand.mp h.1
theorem fin_len (hs ts : List (Option Int)) (f : Nat) : (fin hs ts f).length ≤ ts.length := by
  unfold fin
  refine Nat.le_trans (List.length_filter_le _ _) ?_
  rw [List.length_reverse]; exact stand_len ts
theorem filter_more {α : Type} (p : α → Bool) {xs : List α} {i : Nat} {x : α} (h : xs[i]? = some x) : (xs.take (i + 1)).filter p = (xs.take i).filter p ++ (if p x = true then [x] else []) := by
  obtain ⟨hi, e⟩ := List.getElem?_eq_some_iff.mp h
  rw [List.take_succ_eq_append_getElem hi, List.filter_append, e]
  congr 1
  by_cases hp : p x = true
  · simp [hp]
  · simp [hp]
theorem sel_yes {α : Type} (f : α → V) (p : α → Bool) {xs : List α} {i : Nat} {x : α} (h : xs[i]? = some x) (hp : p x = true) : ((xs.take (i + 1)).filter p).map f = ((xs.take i).filter p).map f ++ [f x] := by
  rw [filter_more p h, hp]; simp
theorem sel_no {α : Type} (f : α → V) (p : α → Bool) {xs : List α} {i : Nat} {x : α} (h : xs[i]? = some x) (hp : p x = false) : ((xs.take (i + 1)).filter p).map f = ((xs.take i).filter p).map f := by
  rw [filter_more p h, hp]; simp
theorem foldl_more {α β : Type} (g : β → α → β) {xs : List α} {i : Nat} {x : α} {b : β} (h : xs[i]? = some x) : (xs.take (i + 1)).foldl g b = g ((xs.take i).foldl g b) x := by
  obtain ⟨hi, e⟩ := List.getElem?_eq_some_iff.mp h
  rw [List.take_succ_eq_append_getElem hi, List.foldl_append, e]; rfl
theorem inV_nint (f : Nat) (xs : List Nat) : inV (.int (f : Int)) (xs.map nint) = decide (f ∈ xs) := by
  unfold inV
  rw [Bool.eq_iff_iff, List.any_eq_true, decide_eq_true_eq]
  constructor
  · rintro ⟨y, hy, e⟩
    obtain ⟨n, hn, rfl⟩ := List.mem_map.mp hy
    have e2 : ((n : Int) == (f : Int)) = true := e
    have : n = f := by have := eq_of_beq e2; omega
    subst this; exact hn
  · intro h
    exact ⟨nint f, List.mem_map.mpr ⟨f, h, rfl⟩, by show ((f : Int) == (f : Int)) = true; simp⟩
theorem flat_nint (xs : List Nat) : (xs.map nint).all flatV = true := by
  rw [List.all_eq_true]; rintro y hy; obtain ⟨n, _, rfl⟩ := List.mem_map.mp hy; rfl
theorem dp_enc (K : PySem.W.Frag) (H : Hp) : ∀ xs : List (Option Int), DpAll K H (xs.map enc) (xs.map fun o => match o with | none => PyData.none | some i => PyData.int i)
  | [] => .nil
  | none :: xs => .cons .non (dp_enc K H xs)
  | some i :: xs => .cons (.int i) (dp_enc K H xs)
theorem dp_nint (K : PySem.W.Frag) (H : Hp) : ∀ xs : List Nat, DpAll K H (xs.map nint) (xs.map fun n : Nat => PyData.int (n : Int))
  | [] => .nil
  | n :: xs => .cons (.int (n : Int)) (dp_nint K H xs)
/-- all but the objects of S is as it was -/
def Kp (S : List Addr) (H H' : Hp) : Prop := ∀ b o, H b = some o → b ∉ S → H' b = some o
theorem Kp.refl {S : List Addr} {H : Hp} : Kp S H H := fun _ _ e _ => e
theorem Kp.trans {S : List Addr} {H H1 H2 : Hp} (a : Kp S H H1) (b : Kp S H1 H2) : Kp S H H2 := fun c o e h => b c o (a c o e h) h
theorem Kp.at {S : List Addr} {H H' : Hp} (k : Kp S H H') {b : Addr} {o : HO} (e : H b = some o) (h : b ∉ S) : H' b = some o := k b o e h
theorem Kp.free {H H' : Hp} (k : Kp [] H H') {b : Addr} (e : H' b = none) : H b = none := by
  cases q : H b with
  | none => rfl
  | some o => rw [k b o q (by simp)] at e; cases e

end Lw
namespace Lw
open PySem PySem.Spec L2 FG
open PyProof.Rows hiding St
/-! what is kept -/
theorem But.kp {b : Addr} {H H' : Hp} (k : But b H H') : Kp [b] H H' := fun a o e h => (k a (by simpa using h)).trans e
theorem Kp.mono {S S' : List Addr} {H H' : Hp} (k : Kp S H H') (h : ∀ a ∈ S, a ∈ S') : Kp S' H H' := fun b o e n => k b o e fun z => n (h b z)
theorem BoxAt.kp {S : List Addr} {H H' : Hp} {b : Addr} {n : Int} (x : BoxAt H b n) (k : Kp S H H') (h : b ∉ S) : BoxAt H' b n := by
  obtain ⟨x, y, c, e, r⟩ := x
  exact ⟨x, y, c, k _ _ e h, r⟩
theorem BoxAt.more {H : Hp} {b : Addr} {n m : Int} (x : BoxAt H b n) (h : n ≤ m) : BoxAt H b m := by
  obtain ⟨x, y, c, e, a1, a2, a3, a4, a5⟩ := x
  exact ⟨x, y, c, e, a1, a2, a3, a4, by omega⟩
theorem Kp.new {S : List Addr} {H H1 : Hp} {a : Addr} {o : HO} (k : Kp S H H1) (h : H1 a = none) : Kp S H (L2.upd H1 a o) := fun b ob e n => (upd_ne (ne_of_none (k b ob e n) h)).trans (k b ob e n)
theorem BoxAt.new {H : Hp} {b a : Addr} {n : Int} {o : HO} (x : BoxAt H b n) (h : H a = none) : BoxAt (L2.upd H a o) b n := x.kp (S := []) (Kp.refl.new h) (by simp)
/-- the script: locked, or an object of the module -/
def Scr (K : PySem.W.Frag) (H : Hp) (a : Addr) (ns : List Int) : Prop := (∃ o, H a = some (.frz o (.lst (ns.map V.int)))) ∨ ∀ H', SqL K H' a (ns.map V.int)
theorem Scr.sq {K : PySem.W.Frag} {H : Hp} {a : Addr} {ns : List Int} (x : Scr K H a ns) : SqL K H a (ns.map V.int) := by
  rcases x with ⟨o, z⟩ | z
  · exact .inl (.inr ⟨o, z⟩)
  · exact z H
theorem Scr.of {K : PySem.W.Frag} {H : Hp} {a : Addr} {ns : List Int} (hO : Only H) (h : SqL K H a (ns.map V.int)) : Scr K H a ns := by
  rcases h with (z | ⟨o, z⟩) | z
  · rcases hO a with y | ⟨o, xs, y⟩
    · rw [y] at z; cases z
    · rw [y] at z; cases z
  · exact .inl ⟨o, z⟩
  · exact .inr fun H' => .inr z
theorem Scr.kp {K : PySem.W.Frag} {S : List Addr} {H H' : Hp} {a : Addr} {ns : List Int} (x : Scr K H a ns) (k : Kp S H H') (hS : ∀ b ∈ S, ∀ o u, H b ≠ some (.frz o u)) : Scr K H' a ns := by
  rcases x with ⟨o, z⟩ | z
  · exact .inl ⟨o, k a _ z fun c => hS a c _ _ z⟩
  · exact .inr z
theorem Scr.kp0 {K : PySem.W.Frag} {H H' : Hp} {a : Addr} {ns : List Int} (x : Scr K H a ns) (k : Kp [] H H') : Scr K H' a ns := x.kp k fun _ z => by cases z
theorem BoxAt.nf {H : Hp} {b : Addr} {n : Int} (x : BoxAt H b n) : ∀ c ∈ [b], ∀ o u, H c ≠ some (.frz o u) := by
  obtain ⟨_, _, _, e, _⟩ := x
  intro c hc o u h; rw [List.mem_singleton] at hc; subst hc; rw [e] at h; cases h
theorem BoxAt.ne {H : Hp} {b c : Addr} {n : Int} (x : BoxAt H b n) (hc : H c = none) : c ≠ b := by
  obtain ⟨_, _, _, e, _⟩ := x; exact (ne_of_none e hc).symm

end Lw
namespace Lw
open PySem PySem.Spec L2 FG
open PyProof.Rows hiding St
/-! ### things of any kind; whole numbers, names, pairs -/
theorem iteB {b : Bool} {A B : Prop} (h1 : b = true → A) (h2 : b = false → B) : if b = true then A else B := by
  cases b with
  | true => exact iteT (h1 rfl)
  | false => exact iteF (h2 rfl)
inductive Sh (H : Hp) : V → Prop
  | non : Sh H .non
  | bl (b : Bool) : Sh H (.bl b)
  | int (z : Int) : Sh H (.int z)
  | str (z : Str) (h : z.length ≤ sizeLine) : Sh H (.str z)
  | lst {a : Addr} {xs : List V} (e : H a = some (.lst xs)) : Sh H (.ref a)
  | tup {a : Addr} {xs : List V} (e : H a = some (.tup xs)) : Sh H (.ref a)
  | dK {a : Addr} {kvs : List (Key × V)} (e : H a = some (.dK kvs)) : Sh H (.ref a)
def isIntV : V → Bool
  | .int _ | .bl _ => true
  | _ => false
def isBlV : V → Bool
  | .bl _ => true
  | _ => false
def numV : V → Bool
  | .int _ => true
  | _ => false
def strV : V → Option Str
  | .str z => some z
  | _ => none
def tupV (H : Hp) : V → Option (List V)
  | .ref a => match H a with
    | some (.tup xs) => some xs
    | _ => none
  | _ => none
theorem Sh.kp {H H' : Hp} {v : V} (s : Sh H v) (k : Kp [] H H') : Sh H' v := by
  cases s with
  | non => exact .non
  | bl b => exact .bl b
  | int z => exact .int z
  | str z h => exact .str z h
  | lst e => exact .lst (k _ _ e (by simp))
  | tup e => exact .tup (k _ _ e (by simp))
  | dK e => exact .dK (k _ _ e (by simp))
theorem tupV_some {H : Hp} {v : V} {xs : List V} (h : tupV H v = some xs) : ∃ a, v = .ref a ∧ H a = some (.tup xs) := by
  unfold tupV at h
  split at h
  · rename_i a
    split at h
    · rename_i ys e
      cases h
      exact ⟨a, rfl, e⟩
    · cases h
  · cases h
theorem tupV_ref {H : Hp} {a : Addr} {xs : List V} (h : H a = some (.tup xs)) : tupV H (.ref a) = some xs := by
  simp only [tupV, h]
theorem Sh.tupKp {H H' : Hp} {v : V} (s : Sh H v) (k : Kp [] H H') : tupV H' v = tupV H v := by
  cases s with
  | non => rfl
  | bl b => rfl
  | int z => rfl
  | str z h => rfl
  | lst e => simp only [tupV, e, k _ _ e (by simp)]
  | tup e => simp only [tupV, e, k _ _ e (by simp)]
  | dK e => simp only [tupV, e, k _ _ e (by simp)]
theorem Sh.ty {H : Hp} {v : V} (K : PySem.W.Frag) (s : Sh H v) : ∃ t : String, TyX K H v (.type t) ∧ kitB t "int" = some (isIntV v) ∧ kitB t "bool" = some (isBlV v) ∧ kitB t "str" = some (strV v).isSome ∧ kitB t "tuple" = some (tupV H v).isSome := by
  cases s with
  | non => exact ⟨_, .base .non, by decide +kernel, by decide +kernel, by decide +kernel, by show _ = some false; decide +kernel⟩
  | bl b => exact ⟨_, .base (.bl b), by show _ = some true; decide +kernel, by show _ = some true; decide +kernel, by show _ = some false; decide +kernel, by show _ = some false; decide +kernel⟩
  | int z => exact ⟨_, .base (.int z), by show _ = some true; decide +kernel, by show _ = some false; decide +kernel, by show _ = some false; decide +kernel, by show _ = some false; decide +kernel⟩
  | str z h => exact ⟨_, .base (.str z), by show _ = some false; decide +kernel, by show _ = some false; decide +kernel, by show _ = some true; decide +kernel, by show _ = some false; decide +kernel⟩
  | lst e => exact ⟨_, .base (.lst e), by show _ = some false; decide +kernel, by show _ = some false; decide +kernel, by show _ = some false; decide +kernel, by simp only [tupV, e]; decide +kernel⟩
  | tup e => exact ⟨_, .base (.tup e), by show _ = some false; decide +kernel, by show _ = some false; decide +kernel, by show _ = some false; decide +kernel, by simp only [tupV, e]; show _ = some true; decide +kernel⟩
  | dK e => exact ⟨_, .base (.dK e), by show _ = some false; decide +kernel, by show _ = some false; decide +kernel, by show _ = some false; decide +kernel, by simp only [tupV, e]; decide +kernel⟩
theorem isInt_num (v : V) (h : isIntV v = true) : (!isBlV v) = numV v := by
  cases v <;> first | rfl | cases h
theorem num_int (v : V) (h : isIntV v = false) : numV v = false := by
  cases v <;> first | rfl | cases h
theorem num_some {v : V} (h : numV v = true) : ∃ z, v = .int z := by
  cases v with
  | int z => exact ⟨z, rfl⟩
  | _ => cases h
theorem strV_some {v : V} {z : Str} (h : strV v = some z) : v = .str z := by
  cases v with
  | str y => cases h; rfl
  | _ => cases h
/-- low to high -/
def wholeV (v : V) (a b : Int) : Bool := match v with
  | .int z => decide (a ≤ z ∧ z ≤ b)
  | _ => false
theorem whole_num {v : V} {a b : Int} (h : numV v = false) : wholeV v a b = false := by
  cases v with
  | int z => cases h
  | _ => rfl
def letter (c : Nat) : Bool := decide (97 ≤ c ∧ c ≤ 122)
def nameS (z : Str) : Bool := decide (1 ≤ z.length ∧ z.length ≤ 6) && z.cps.toList.all letter
def nameV (v : V) : Bool := match strV v with
  | some z => nameS z
  | none => false
def posV : V → Bool
  | .int z => decide (0 ≤ z)
  | _ => false
def pairL (xs : List V) : Bool := decide (xs.length = 2) && xs.all posV
def pairV (H : Hp) (v : V) : Bool := match tupV H v with
  | some xs => pairL xs
  | none => false
/-- a thing, and in a tuple such things -/
structure Th (H : Hp) (v : V) : Prop where
  sh : Sh H v
  el : ∀ xs, tupV H v = some xs → xs.length ≤ 100 ∧ ∀ x ∈ xs, Sh H x
theorem Th.kp {H H' : Hp} {v : V} (s : Th H v) (k : Kp [] H H') : Th H' v := ⟨s.sh.kp k, fun xs h => by
  rw [s.sh.tupKp k] at h
  exact ⟨(s.el xs h).1, fun x hx => ((s.el xs h).2 x hx).kp k⟩⟩
theorem Th.pairKp {H H' : Hp} {v : V} (s : Th H v) (k : Kp [] H H') : pairV H' v = pairV H v := by
  unfold pairV; rw [s.sh.tupKp k]
def spNumG : Sp := fun vs H Q _ => ∃ v, vs = [v] ∧ Sh H v ∧ Q (.bl (numV v)) H
def spWholeG : Sp := fun vs H Q _ => ∃ v a b, vs = [v, .int a, .int b] ∧ Sh H v ∧ Q (.bl (wholeV v a b)) H
def spName : Sp := fun vs H Q _ => ∃ v, vs = [v] ∧ Sh H v ∧ ∀ H', Kp [] H H' → Q (.bl (nameV v)) H'
def spPair : Sp := fun vs H Q _ => ∃ v, vs = [v] ∧ Th H v ∧ ∀ H', Kp [] H H' → Q (.bl (pairV H v)) H'
theorem mem_letters (c : Nat) : decide (c ∈ ("abcdefghijklmnopqrstuvwxyz" : Str).cps.toList) = letter c := by
  have e : ("abcdefghijklmnopqrstuvwxyz" : Str).cps.toList = (List.range 26).map (· + 97) := by decide +kernel
  unfold letter
  rw [e, decide_eq_decide, List.mem_map]
  constructor
  · rintro ⟨x, hx, rfl⟩
    have := List.mem_range.mp hx
    omega
  · rintro ⟨h1, h2⟩
    exact ⟨c - 97, List.mem_range.mpr (by omega), by omega⟩
theorem all_take {α : Type} (p : α → Bool) (xs : List α) : ((xs.map p).all id) = xs.all p := by
  induction xs with
  | nil => rfl
  | cons x xs ih => simp [ih]
theorem map_take {α β : Type} (f : α → β) {xs : List α} {i : Nat} {x : α} (h : xs[i]? = some x) : (xs.take (i + 1)).map f = (xs.take i).map f ++ [f x] := by
  obtain ⟨hi, e⟩ := List.getElem?_eq_some_iff.mp h
  rw [List.take_succ_eq_append_getElem hi, List.map_append, e]; rfl
section
variable {P : Program} {w : World} {K : PySem.W.Frag} {mg : Str → Option Value} {base : Heap}
theorem ok_number (T : Tx K mg) {fd : FuncData} (F : Fun K "is_number" "is_number" s_is_number (He.ga K "is_number") fd) : FnG P w K mg base 1 (He.ga K "is_number") fd ["thing"] spNumG := by
  refine FnG.of F sc_is_number (fun vs H Q E h => ?_) (fun cdv A outer s H vs Q E hr h => ?_)
  · obtain ⟨v, rfl, _⟩ := h; rfl
  · obtain ⟨v, rfl, sh, q⟩ := h
    obtain ⟨t, ht, hi, hb, _, _⟩ := sh.ty K
    refine ⟨_, pss_one (ps_ret (pe_and (pe_callB (kisi K) (by rfl) T.z_isinstance (by decide +kernel) (pa_cons (pv 0) (pa_cons (pe_bltn (v := .ty "int") (by rfl) T.z_int (by decide +kernel) rfl) (pa_nil)))) (pe_one (pe_not (pe_callB (kisi K) (by rfl) T.z_isinstance (by decide +kernel) (pa_cons (pv 0) (pa_cons (pe_bltn (v := .ty "bool") (by rfl) T.z_bool (by decide +kernel) rfl) (pa_nil)))))))), ?_⟩
    refine ⟨_, rfl, _, _, _, _, _, rfl, .ty _, ht, kit_ty hi, _, rfl, ?_⟩
    refine iteB (fun h1 => ?_) (fun h1 => ?_)
    · refine ⟨_, rfl, _, _, _, _, _, rfl, .ty _, ht, kit_ty hb, _, rfl, ?_⟩
      rw [← isInt_num v h1] at q; exact q
    · rw [num_int v h1] at q; exact q
theorem ok_whole (T : Tx K mg) {fd : FuncData} (F : Fun K "is_whole" "is_whole" s_is_whole (He.ga K "is_whole") fd) (c_is_number : Cal P w K mg base 1 "is_number" spNumG) : FnG P w K mg base 2 (He.ga K "is_whole") fd ["thing", "low", "high"] spWholeG := by
  refine FnG.of F sc_is_whole (fun vs H Q E h => ?_) (fun cdv A outer s H vs Q E hr h => ?_)
  · obtain ⟨v, a, b, rfl, _⟩ := h; rfl
  · obtain ⟨v, a, b, rfl, sh, q⟩ := h
    refine ⟨_, pss_one (ps_ret (pe_and (gc c_is_number (hr.mono (by decide)) takes0 (pa_cons (pv 0) (pa_nil))) (pe_one (pe_chain op_le op_le (pv 1) (pv 0) (pv 2))))), ?_⟩
    refine ⟨_, rfl, v, rfl, sh, _, rfl, ?_⟩
    refine iteB (fun h1 => ?_) (fun h1 => ?_)
    · obtain ⟨z, rfl⟩ := num_some h1
      refine ⟨_, rfl, _, rfl, _, _, rfl, rfl, _, rfl, ?_⟩
      by_cases h1 : a ≤ z
      · rw [decide_eq_true h1]
        refine iteT ⟨_, rfl, _, _, rfl, rfl, ?_⟩
        have e : wholeV (.int z) a b = decide (z ≤ b) := by simp [wholeV, h1]
        rw [e] at q; exact q
      · rw [decide_eq_false h1]
        refine iteF ?_
        have e : wholeV (.int z) a b = false := by simp [wholeV, h1]
        rw [e] at q; exact q
    · rw [whole_num h1] at q; exact q
end

end Lw
namespace Lw
open PySem PySem.Spec L2 FG
open PyProof.Rows hiding St
/-! ### Frames, where nothing is refused -/
def frMeths : List Str := ["need_begun", "need_standing", "need_more", "begin", "finish", "clear", "stands", "inside", "row", "within", "ended_by", "standing", "begun", "make", "need_room", "need_cell", "is_value", "get", "put", "size", "cells", "rooms", "used", "left", "limit", "greatest", "picture", "twin"]
structure FrF (fs : List (Str × V)) (h t : Addr) : Prop where
  hh : fs.lookup ("holders" : Str) = some (.ref h)
  tt : fs.lookup ("takers" : Str) = some (.ref t)
  no : ∀ m ∈ frMeths, fs.lookup m = none
/-- at p an instance of the class at C, which is under Frames: its lists stand at h and t -/
structure FrAt (C : Addr) (H : Hp) (p h t : Addr) (hs ts : List (Option Int)) : Prop where
  ob : ∃ dx fs, H p = some (.ins C dx fs) ∧ FrF fs h t
  lh : H h = some (.lst (hs.map enc))
  lt : H t = some (.lst (ts.map enc))
  ne : h ≠ t
  wf : Wf hs ts
theorem FrAt.kp {S : List Addr} {C : Addr} {H H' : Hp} {p h t : Addr} {hs ts : List (Option Int)} (f : FrAt C H p h t hs ts) (k : Kp S H H') (h1 : p ∉ S) (h2 : h ∉ S) (h3 : t ∉ S) : FrAt C H' p h t hs ts := by
  obtain ⟨dx, fs, e, ff⟩ := f.ob
  exact ⟨⟨dx, fs, k _ _ e h1, ff⟩, k _ _ f.lh h2, k _ _ f.lt h3, f.ne, f.wf⟩
theorem FrAt.kp0 {C : Addr} {H H' : Hp} {p h t : Addr} {hs ts : List (Option Int)} (f : FrAt C H p h t hs ts) (k : Kp [] H H') : FrAt C H' p h t hs ts := f.kp k (by simp) (by simp) (by simp)
theorem FrAt.ph {C : Addr} {H : Hp} {p h t : Addr} {hs ts : List (Option Int)} (f : FrAt C H p h t hs ts) : p ≠ h ∧ p ≠ t := by
  obtain ⟨dx, fs, e, ff⟩ := f.ob
  exact ⟨ne_of e f.lh (by intro q; cases q), ne_of e f.lt (by intro q; cases q)⟩
abbrev CF (K : PySem.W.Frag) : Addr := He.ga K "Frames"
/-- where a valid number is handed in -/
def spBeg (C : Addr) : Sp := fun vs H Q _ => ∃ p h t hs ts, ∃ n : Nat, vs = [.ref p, nint n] ∧ FrAt C H p h t hs ts ∧ n < hs.length ∧ Q .non H
def spStd (C : Addr) : Sp := fun vs H Q _ => ∃ p h t hs ts, ∃ n : Nat, vs = [.ref p, nint n] ∧ FrAt C H p h t hs ts ∧ ts[n]? = some none ∧ Q .non H
def spMore (C : Addr) : Sp := fun vs H Q _ => ∃ p h t hs ts, vs = [.ref p] ∧ FrAt C H p h t hs ts ∧ hs.length ≤ 100 ∧ Q .non H
def spBegin (C : Addr) : Sp := fun vs H Q _ => ∃ p h t hs ts, ∃ n : Nat, vs = [.ref p, nint n] ∧ FrAt C H p h t hs ts ∧ ts[n]? = some none ∧ hs.length ≤ 100 ∧
  ∀ H', Kp [h, t] H H' → FrAt C H' p h t (hs ++ [some (n : Int)]) (ts ++ [none]) → Q (nint hs.length) H'
def spFin (C : Addr) : Sp := fun vs H Q _ => ∃ p h t hs ts, ∃ n : Nat, vs = [.ref p, nint n] ∧ FrAt C H p h t hs ts ∧ ts[n]? = some none ∧ 0 < n ∧
  ∀ l H', H l = none → Kp [t] H H' → FrAt C H' p h t hs (taken ts (fin hs ts n) n) → H' l = some (.lst ((fin hs ts n).map nint)) → Q (.ref l) H'
def spClear : Sp := fun vs H Q _ => ∃ p f, vs = [p, f] ∧ Q .non H
def spStands (C : Addr) : Sp := fun vs H Q _ => ∃ p h t hs ts, ∃ z : Int, vs = [.ref p, .int z] ∧ FrAt C H p h t hs ts ∧ Q (.bl (decide (0 ≤ z ∧ ts[z.toNat]? = some none))) H
def spRow (C : Addr) : Sp := fun vs H Q _ => ∃ p h t hs ts, ∃ n : Nat, vs = [.ref p, nint n] ∧ FrAt C H p h t hs ts ∧ n < hs.length ∧
  ∀ l H', H l = none → Kp [] H H' → H' l = some (.lst ((rowW hs n).map nint)) → Q (.ref l) H'
def spBy (C : Addr) : Sp := fun vs H Q _ => ∃ p h t hs ts, ∃ (n : Nat) (o : Option Int), vs = [.ref p, nint n] ∧ FrAt C H p h t hs ts ∧ ts[n]? = some o ∧ Q (enc o) H
def spStanding (C : Addr) : Sp := fun vs H Q _ => ∃ p h t hs ts, vs = [.ref p] ∧ FrAt C H p h t hs ts ∧ ∀ l H', H l = none → Kp [] H H' → H' l = some (.lst ((stand ts).map nint)) → Q (.ref l) H'
def spBegun (C : Addr) : Sp := fun vs H Q _ => ∃ p h t hs ts, vs = [.ref p] ∧ FrAt C H p h t hs ts ∧ Q (.int ((hs.length : Int) - 1)) H
/-- of any int: is_number; between: is_whole -/
def spNum : Sp := fun vs H Q _ => ∃ z : Int, vs = [.int z] ∧ Q (.bl true) H
def spWhole : Sp := fun vs H Q _ => ∃ z a b : Int, vs = [.int z, .int a, .int b] ∧ Q (.bl (decide (a ≤ z ∧ z ≤ b))) H
def spFInit (C : Addr) : Sp := fun vs H Q _ => ∃ p dx, vs = [.ref p] ∧ H p = some (.ins C dx []) ∧ ∀ h t H', H h = none → H t = none → h ≠ p → t ≠ p → Kp [p] H H' → FrAt C H' p h t [none] [none] → H' p = some (.ins C dx (putF "takers" (.ref t) (putF "holders" (.ref h) []))) → Q .non H'

theorem frF0 (h t : Addr) : FrF (putF "takers" (.ref t) (putF "holders" (.ref h) [])) h t := by
  have n1 : ¬ (("holders" : Str) = "takers") := by decide +kernel
  refine ⟨by rw [lookup_putF, if_neg n1, lookup_putF, if_pos rfl], by rw [lookup_putF, if_pos rfl], fun m hm => ?_⟩
  have z : (frMeths.all fun m => decide (¬ m = ("takers" : Str) ∧ ¬ m = ("holders" : Str))) = true := by decide +kernel
  have z2 := of_decide_eq_true (List.all_eq_true.mp z m hm)
  rw [lookup_putF, if_neg z2.1, lookup_putF, if_neg z2.2]; rfl
theorem get_enc {xs : List (Option Int)} {n : Nat} {o : Option Int} (h : xs[n]? = some o) : atI (xs.map enc) (n : Int) = some (enc o) := atI_nat (by rw [List.getElem?_map, h]; rfl)
theorem rt_of {Q : VK} {a b : V} {H : Hp} (e : a = b) (q : Q b H) : Q a H := e ▸ q
theorem Cal.weaker {P : Program} {w : World} {K : PySem.W.Frag} {mg : Str → Option Value} {base : Heap} {k : Nat} {x : Str} {sp sp' : Sp} (c : Cal P w K mg base k x sp) (h : ∀ vs H Q E, sp' vs H Q E → sp vs H Q E) : Cal P w K mg base k x sp' :=
  let ⟨f, fd, ps, F, r⟩ := c.ex; ⟨f, fd, ps, F.weaker h, r⟩
theorem whole_of {P : Program} {w : World} {K : PySem.W.Frag} {mg : Str → Option Value} {base : Heap} {k : Nat} (c : Cal P w K mg base k "is_whole" spWholeG) : Cal P w K mg base k "is_whole" spWhole :=
  Cal.weaker c fun vs H Q E ⟨z, a, b, e, q⟩ => ⟨.int z, a, b, e, .int z, q⟩
section
variable {P : Program} {w : World} {K : PySem.W.Frag} {mg : Str → Option Value} {base : Heap}
theorem ok_finit (T : Tx K mg) {C : Addr} (cC : Cls K C) (nH : NoAttr K C "holders") (nT : NoAttr K C "takers") {fd : FuncData} {f : Addr} (F : Fun K "__init__" "Frames.__init__" s_Frames___init__ f fd) : FnG P w K mg base 1 f fd ["self"] (spFInit C) := by
  refine FnG.of F sc_Frames___init__ (fun vs H Q E h => ?_) (fun cdv A outer s H vs Q E hr h => ?_)
  · obtain ⟨p, dx, rfl, _⟩ := h; rfl
  · obtain ⟨p, dx, rfl, hp, q⟩ := h
    refine ⟨_, pss_cons (ksFld K (pv 0) (pe_lst (pa_cons (pe_non) (pa_nil))))
      (pss_one (ksFld K (pv 0) (pe_lst (pa_cons (pe_non) (pa_nil))))), ?_⟩
    refine ⟨by decide, fun h hh => ?_⟩
    have n1 : p ≠ h := ne_of_none hp hh
    refine ⟨_, rfl, p, C, dx, [], rfl, (by rw [upd_ne n1]; exact hp), cC, nH, (by show 0 < 1000; decide), by decide, fun t ht => ?_⟩
    have n2 : t ≠ p := fun z => by rw [z, upd_same] at ht; cases ht
    have n3 : t ≠ h := fun z => by rw [z, upd_ne n1.symm, upd_same] at ht; cases ht
    have ht0 : H t = none := by rw [upd_ne n2, upd_ne n3] at ht; exact ht
    refine ⟨_, rfl, p, C, dx, _, rfl, (by rw [upd_ne n2.symm, upd_same]), cC, nT, (by show 1 < 1000; decide), ?_⟩
    refine q h t _ hh ht0 n1.symm n2 (fun b o e hb => ?_) ⟨⟨dx, _, upd_same, frF0 h t⟩, ?_, ?_, n3.symm, wf0⟩ upd_same
    · have hb2 : b ≠ p := by simpa using hb
      rw [upd_ne hb2, upd_ne (ne_of_none e ht0), upd_ne hb2, upd_ne (ne_of_none e hh)]; exact e
    · rw [upd_ne n1.symm, upd_ne n3.symm, upd_ne n1.symm, upd_same]; rfl
    · rw [upd_ne n2, upd_same]; rfl
end

end Lw
namespace Lw
open PySem PySem.Spec L2 FG
open PyProof.Rows hiding St
/-! ### its methods -/
section
variable {P : Program} {w : World} {K : PySem.W.Frag} {mg : Str → Option Value} {base : Heap}
theorem ok_begun_ (T : Tx K mg) {fd : FuncData} {f : Addr} (F : Fun K "need_begun" "Frames.need_begun" s_Frames_need_begun f fd) (c_is_whole : Cal P w K mg base 2 "is_whole" spWhole) (r_NoFrame : Rai P w K mg base "NoFrame" (He.ga K "NoFrame") ["found"]) : FnG P w K mg base 3 f fd ["self", "frame"] (spBeg (CF K)) := by
  refine FnG.of F sc_Frames_need_begun (fun vs H Q E h => ?_) (fun cdv A outer s H vs Q E hr h => ?_)
  · obtain ⟨p, h, t, hs, ts, n, rfl, _⟩ := h; rfl
  · obtain ⟨p, h, t, hs, ts, n, rfl, ⟨⟨dx, fs, e, ff⟩, lh, lt, ne, wf⟩, hn, q⟩ := h
    refine ⟨_, pss_one (ps_if (pt_not (pt_val (gc c_is_whole (hr.mono (by decide)) tkE (pa_cons (pv 1) (pa_cons (pe_int) (pa_cons (pe_op op_sub (pe_callB (klen K) (by rfl) T.z_len PySem.boot_len (pa_cons (kfld K (pv 0)) (pa_nil))) (pe_int)) (pa_nil))))))) (pss_one (ps_rais r_NoFrame (hr.mono (by decide)) tkE (pa_cons (pv 1) (pa_nil)))) (pss_nil)), ?_⟩
    refine ⟨_, rfl, _, rfl, p, CF K, dx, fs, _, rfl, e, T.c_Frames, T.n_Frames_holders, ff.hh, h, _, rfl, .inl (SqL.of lh), _, _, rfl, rfl, n, 0, _, rfl, _, rfl, ?_⟩
    have z : decide ((0 : Int) ≤ n ∧ (n : Int) ≤ ((hs.map enc).length : Int) - 1) = true := by
      rw [List.length_map]; exact decide_eq_true ⟨by omega, by omega⟩
    rw [z]
    exact iteF q
theorem ok_std (T : Tx K mg) {fd : FuncData} {f : Addr} (F : Fun K "need_standing" "Frames.need_standing" s_Frames_need_standing f fd) (m_need_begun : Met P w K mg base 3 (CF K) "need_begun" (spBeg (CF K))) (r_Gone : Rai P w K mg base "Gone" (He.ga K "Gone") ["found", "by"]) : FnG P w K mg base 4 f fd ["self", "frame"] (spStd (CF K)) := by
  refine FnG.of F sc_Frames_need_standing (fun vs H Q E h => ?_) (fun cdv A outer s H vs Q E hr h => ?_)
  · obtain ⟨p, h, t, hs, ts, n, rfl, _⟩ := h; rfl
  · obtain ⟨p, h, t, hs, ts, n, rfl, fr, hn, q⟩ := h
    obtain ⟨⟨dx, fs, e, ff⟩, lh, lt, ne, wf⟩ := id fr
    have hl := (List.getElem?_eq_some_iff.mp hn).1
    refine ⟨_, pss_cons (ps_expr (gm m_need_begun (hr.mono (by decide)) tkE (pv 0) (pa_cons (pv 1) (pa_nil))))
      (pss_one (ps_if (pt_cmpR op_notN (pe_ix (kixL K) (kfld K (pv 0)) (pv 1) (fun _ _ => rfl)) (pe_non) (by first | exact nomark _ | rfl)) (pss_one (ps_rais r_Gone (hr.mono (by decide)) tkE (pa_cons (pv 1) (pa_cons (pe_ix (kixL K) (kfld K (pv 0)) (pv 1) (fun _ _ => rfl)) (pa_nil))))) (pss_nil))), ?_⟩
    refine ⟨_, rfl, p, dx, fs, rfl, e, ff.no _ (by decide +kernel), _, rfl, p, h, t, hs, ts, n, rfl, fr, wf.len ▸ hl, ?_⟩
    refine ⟨_, rfl, p, CF K, dx, fs, _, rfl, e, T.c_Frames, T.n_Frames_takers, ff.tt, _, rfl, t, _, _, _, rfl, rfl, SqL.of lt, get_enc hn, rfl, _, rfl, iteF q⟩
theorem ok_more (T : Tx K mg) {fd : FuncData} {f : Addr} (F : Fun K "need_more" "Frames.need_more" s_Frames_need_more f fd) (r_TooMany : Rai P w K mg base "TooMany" (He.ga K "TooMany") ["many"]) : FnG P w K mg base 3 f fd ["self"] (spMore (CF K)) := by
  obtain ⟨tM, hg_MOST⟩ := T.i_MOST
  refine FnG.of F sc_Frames_need_more (fun vs H Q E h => ?_) (fun cdv A outer s H vs Q E hr h => ?_)
  · obtain ⟨p, h, t, hs, ts, rfl, _⟩ := h; rfl
  · obtain ⟨p, h, t, hs, ts, rfl, ⟨⟨dx, fs, e, ff⟩, lh, lt, ne, wf⟩, hn, q⟩ := h
    refine ⟨_, pss_one (ps_if (pt_cmpR op_gt (pe_callB (klen K) (by rfl) T.z_len PySem.boot_len (pa_cons (kfld K (pv 0)) (pa_nil))) (pe_glob (v := .int 100) rfl hg_MOST ⟨_, rfl⟩) (by first | exact nomark _ | rfl)) (pss_one (ps_rais r_TooMany (hr.mono (by decide)) tkE (pa_cons (pe_callB (klen K) (by rfl) T.z_len PySem.boot_len (pa_cons (kfld K (pv 0)) (pa_nil))) (pa_nil)))) (pss_nil)), ?_⟩
    refine ⟨_, rfl, p, CF K, dx, fs, _, rfl, e, T.c_Frames, T.n_Frames_holders, ff.hh, h, _, rfl, .inl (SqL.of lh), _, 100, rfl, rfl, _, rfl, ?_⟩
    have z : decide ((100 : Int) < ((hs.map enc).length : Int)) = false := by
      rw [List.length_map]; exact decide_eq_false (by omega)
    show if decide ((100 : Int) < ((hs.map enc).length : Int)) = true then _ else _
    rw [z]
    exact iteF q
theorem ok_clear (T : Tx K mg) {fd : FuncData} {f : Addr} (F : Fun K "clear" "Frames.clear" s_Frames_clear f fd) : FnG P w K mg base 1 f fd ["self", "frame"] spClear := by
  refine FnG.of F sc_Frames_clear (fun vs H Q E h => ?_) (fun cdv A outer s H vs Q E hr h => ?_)
  · obtain ⟨p, f, rfl, _⟩ := h; rfl
  · obtain ⟨p, f, rfl, q⟩ := h
    exact ⟨_, pss_one (ps_ret (pe_non)), q⟩
theorem ok_nbegun (T : Tx K mg) {fd : FuncData} {f : Addr} (F : Fun K "begun" "Frames.begun" s_Frames_begun f fd) : FnG P w K mg base 1 f fd ["self"] (spBegun (CF K)) := by
  refine FnG.of F sc_Frames_begun (fun vs H Q E h => ?_) (fun cdv A outer s H vs Q E hr h => ?_)
  · obtain ⟨p, h, t, hs, ts, rfl, _⟩ := h; rfl
  · obtain ⟨p, h, t, hs, ts, rfl, ⟨⟨dx, fs, e, ff⟩, lh, lt, ne, wf⟩, q⟩ := h
    refine ⟨_, pss_one (ps_ret (pe_op op_sub (pe_callB (klen K) (by rfl) T.z_len PySem.boot_len (pa_cons (kfld K (pv 0)) (pa_nil))) (pe_int))), ?_⟩
    refine ⟨_, rfl, p, CF K, dx, fs, _, rfl, e, T.c_Frames, T.n_Frames_holders, ff.hh, h, _, rfl, .inl (SqL.of lh), _, _, rfl, rfl, ?_⟩
    exact rt_of (b := .int ((hs.length : Int) - 1)) (by rw [List.length_map]) q
theorem ok_by (T : Tx K mg) {fd : FuncData} {f : Addr} (F : Fun K "ended_by" "Frames.ended_by" s_Frames_ended_by f fd) (m_need_begun : Met P w K mg base 3 (CF K) "need_begun" (spBeg (CF K))) : FnG P w K mg base 4 f fd ["self", "frame"] (spBy (CF K)) := by
  refine FnG.of F sc_Frames_ended_by (fun vs H Q E h => ?_) (fun cdv A outer s H vs Q E hr h => ?_)
  · obtain ⟨p, h, t, hs, ts, n, o, rfl, _⟩ := h; rfl
  · obtain ⟨p, h, t, hs, ts, n, o, rfl, fr, hn, q⟩ := h
    obtain ⟨⟨dx, fs, e, ff⟩, lh, lt, ne, wf⟩ := id fr
    have hl := (List.getElem?_eq_some_iff.mp hn).1
    refine ⟨_, pss_cons (ps_expr (gm m_need_begun (hr.mono (by decide)) tkE (pv 0) (pa_cons (pv 1) (pa_nil))))
      (pss_one (ps_ret (pe_ix (kixL K) (kfld K (pv 0)) (pv 1) (fun _ _ => rfl)))), ?_⟩
    refine ⟨_, rfl, p, dx, fs, rfl, e, ff.no _ (by decide +kernel), _, rfl, p, h, t, hs, ts, n, rfl, fr, wf.len ▸ hl, ?_⟩
    exact ⟨_, rfl, p, CF K, dx, fs, _, rfl, e, T.c_Frames, T.n_Frames_takers, ff.tt, _, rfl, t, _, _, _, rfl, rfl, SqL.of lt, get_enc hn, q⟩
theorem ok_stands (T : Tx K mg) {fd : FuncData} {f : Addr} (F : Fun K "stands" "Frames.stands" s_Frames_stands f fd) (c_is_whole : Cal P w K mg base 2 "is_whole" spWhole) : FnG P w K mg base 3 f fd ["self", "thing"] (spStands (CF K)) := by
  refine FnG.of F sc_Frames_stands (fun vs H Q E h => ?_) (fun cdv A outer s H vs Q E hr h => ?_)
  · obtain ⟨p, h, t, hs, ts, z, rfl, _⟩ := h; rfl
  · obtain ⟨p, h, t, hs, ts, z, rfl, ⟨⟨dx, fs, e, ff⟩, lh, lt, ne, wf⟩, q⟩ := h
    refine ⟨_, pss_one (ps_ret (pe_and (gc c_is_whole (hr.mono (by decide)) takes0 (pa_cons (pv 1) (pa_cons (pe_int) (pa_cons (pe_op op_sub (pe_callB (klen K) (by rfl) T.z_len PySem.boot_len (pa_cons (kfld K (pv 0)) (pa_nil))) (pe_int)) (pa_nil))))) (pe_one (pe_cmpR op_isN (pe_ix (kixL K) (kfld K (pv 0)) (pv 1) (fun _ _ => rfl)) (pe_non) (by first | exact nomark _ | rfl))))), ?_⟩
    refine ⟨_, rfl, _, rfl, p, CF K, dx, fs, _, rfl, e, T.c_Frames, T.n_Frames_holders, ff.hh, h, _, rfl, .inl (SqL.of lh), _, _, rfl, rfl, z, 0, _, rfl, _, rfl, ?_⟩
    have wl := wf.len
    by_cases hz : 0 ≤ z ∧ z ≤ (hs.length : Int) - 1
    · have z1 : decide ((0 : Int) ≤ z ∧ z ≤ ((hs.map enc).length : Int) - 1) = true := by rw [List.length_map]; exact decide_eq_true hz
      rw [z1]
      obtain ⟨n, rfl⟩ : ∃ n : Nat, z = (n : Int) := ⟨z.toNat, by omega⟩
      have hl : n < ts.length := by omega
      refine iteT ⟨_, rfl, p, CF K, dx, fs, _, rfl, e, T.c_Frames, T.n_Frames_takers, ff.tt, _, rfl, t, _, _, _, rfl, rfl, SqL.of lt, get_enc (List.getElem?_eq_getElem hl), rfl, ?_⟩
      have e2 : decide (enc ts[n] = V.non) = decide ((0 : Int) ≤ n ∧ ts[(n : Int).toNat]? = some none) := by
        rw [Int.toNat_natCast, List.getElem?_eq_getElem hl]
        cases ts[n] with
        | none => simp [enc]
        | some i => simp [enc]
      show Q (.bl (decide (enc ts[n] = V.non))) H
      rw [e2]; exact q
    · have z1 : decide ((0 : Int) ≤ z ∧ z ≤ ((hs.map enc).length : Int) - 1) = false := by rw [List.length_map]; exact decide_eq_false hz
      rw [z1]
      refine iteF ?_
      have e2 : decide ((0 : Int) ≤ z ∧ ts[z.toNat]? = some none) = false := by
        refine decide_eq_false fun ⟨a, b⟩ => hz ⟨a, ?_⟩
        have := (List.getElem?_eq_some_iff.mp b).1
        omega
      rw [e2] at q; exact q
theorem ok_begin (T : Tx K mg) {fd : FuncData} {f : Addr} (F : Fun K "begin" "Frames.begin" s_Frames_begin f fd) (m_need_standing : Met P w K mg base 4 (CF K) "need_standing" (spStd (CF K))) (m_need_more : Met P w K mg base 3 (CF K) "need_more" (spMore (CF K))) :
    FnG P w K mg base 5 f fd ["self", "frame"] (spBegin (CF K)) := by
  refine FnG.of F sc_Frames_begin (fun vs H Q E h => ?_) (fun cdv A outer s H vs Q E hr h => ?_)
  · obtain ⟨p, h, t, hs, ts, n, rfl, _⟩ := h; rfl
  · obtain ⟨p, h, t, hs, ts, n, rfl, fr, hn, h100, q⟩ := h
    obtain ⟨⟨dx, fs, e, ff⟩, lh, lt, ne, wf⟩ := id fr
    have hl := (List.getElem?_eq_some_iff.mp hn).1
    have wl := wf.len
    obtain ⟨ph, pt⟩ := fr.ph
    refine ⟨_, pss_cons (ps_expr (gm m_need_standing (hr.mono (by decide)) tkE (pv 0) (pa_cons (pv 1) (pa_nil))))
      (pss_cons (ps_expr (gm0 m_need_more (hr.mono (by decide)) tkE (pv 0)))
      (pss_cons (ps_expr (kbm K PySem.F.plainAttrs_list PySem.F.slot_list_append PySem.F.type_list_append mt_append (kfld K (pv 0)) (pa_cons (pv 1) (pa_nil))))
      (pss_cons (ps_expr (kbm K PySem.F.plainAttrs_list PySem.F.slot_list_append PySem.F.type_list_append mt_append (kfld K (pv 0)) (pa_cons (pe_non) (pa_nil))))
      (pss_one (ps_ret (pe_op op_sub (pe_callB (klen K) (by rfl) T.z_len PySem.boot_len (pa_cons (kfld K (pv 0)) (pa_nil))) (pe_int))))))), ?_⟩
    refine ⟨_, rfl, p, dx, fs, rfl, e, ff.no _ (by decide +kernel), _, rfl, p, h, t, hs, ts, n, rfl, fr, hn, ?_⟩
    refine ⟨_, rfl, p, dx, fs, rfl, e, ff.no _ (by decide +kernel), p, h, t, hs, ts, rfl, fr, h100, ?_⟩
    refine ⟨_, rfl, p, CF K, dx, fs, _, rfl, e, T.c_Frames, T.n_Frames_holders, ff.hh, .inl ⟨rfl, _, SqL.of lh⟩, _, rfl, h, _, _, rfl, rfl, lh, (by rw [List.length_map]; exact small1000 (by omega)), ?_⟩
    have e1 : upd H h (.lst (hs.map enc ++ [nint n])) p = some (.ins (CF K) dx fs) := (upd_ne ph).trans e
    have l1 : upd H h (.lst (hs.map enc ++ [nint n])) t = some (.lst (ts.map enc)) := (upd_ne ne.symm).trans lt
    refine ⟨_, rfl, p, CF K, dx, fs, _, rfl, e1, T.c_Frames, T.n_Frames_takers, ff.tt, .inl ⟨rfl, _, SqL.of l1⟩, t, _, _, rfl, rfl, l1, (by rw [List.length_map]; exact small1000 (by omega)), ?_⟩
    have e2 : upd (upd H h (.lst (hs.map enc ++ [nint n]))) t (.lst (ts.map enc ++ [V.non])) p = some (.ins (CF K) dx fs) := (upd_ne pt).trans e1
    have l2 : upd (upd H h (.lst (hs.map enc ++ [nint n]))) t (.lst (ts.map enc ++ [V.non])) h = some (.lst (hs.map enc ++ [nint n])) := (upd_ne ne).trans upd_same
    refine ⟨_, rfl, p, CF K, dx, fs, _, rfl, e2, T.c_Frames, T.n_Frames_holders, ff.hh, h, _, rfl, .inl (SqL.of l2), _, _, rfl, rfl, ?_⟩
    have z : (((hs.map enc ++ [nint n]).length : Nat) : Int) - 1 = (hs.length : Int) := by simp
    refine rt_of (b := nint hs.length) (congrArg V.int z) ?_
    refine q _ (fun b o eb hb => ?_) ⟨⟨dx, fs, e2, ff⟩, ?_, ?_, ne, wf.begun (by omega) h100⟩
    · simp at hb
      rw [upd_ne hb.2, upd_ne hb.1]; exact eb
    · rw [l2, List.map_append]; rfl
    · rw [upd_same, List.map_append]; rfl
theorem ok_standing (T : Tx K mg) {fd : FuncData} {f : Addr} (F : Fun K "standing" "Frames.standing" s_Frames_standing f fd) : FnG P w K mg base 1 f fd ["self"] (spStanding (CF K)) := by
  refine FnG.of F sc_Frames_standing (fun vs H Q E h => ?_) (fun cdv A outer s H vs Q E hr h => ?_)
  · obtain ⟨p, h, t, hs, ts, rfl, _⟩ := h; rfl
  · obtain ⟨p, h, t, hs, ts, rfl, ⟨⟨dx, fs, e, ff⟩, lh, lt, ne, wf⟩, q⟩ := h
    have wl := wf.len
    have ws := wf.small
    refine ⟨_, pss_one (ps_ret (pe_lc (own := [("one", 1)]) (g := gName 1) rfl sc_Frames_standing.nd (pi_range1 rfl T.z_range (pa_cons (pe_callB (klen K) (by rfl) T.z_len PySem.boot_len (pa_cons (kfld K (pv 0)) (pa_nil))) (pa_nil))) (blkOk_by (own := [("one", 1)]) (N := ["self", "one"]) (sc := defScope s_Frames_standing) (by decide +kernel)) (fun _ _ _ _ _ => pg_name (i := 1) sc_Frames_standing.nd rfl (by first | exact Or.inl rfl | exact Or.inr rfl)) (fun _ _ _ _ _ => by exact pts_one (pt_cmpR op_isN (pe_ix (kixL K) (kfld K (pv 0)) (pv 1) (fun _ _ => rfl)) (pe_non) (by first | exact nomark _ | rfl))) (fun _ _ _ _ _ => by exact pv 1))), ?_⟩
    refine ⟨_, rfl, p, CF K, dx, fs, _, rfl, e, T.c_Frames, T.n_Frames_takers, ff.tt, t, _, rfl, .inl (SqL.of lt), _, rfl, (by rw [List.length_map]; omega), (by rw [List.length_map]; omega), fun D hD => ?_⟩
    refine lc_range (lo := 0) (n := _) (fun i H' => Kp [] H H' ∧ H' D = some (.lst (((List.range ts.length).take i |>.filter fun j => decide (ts[j]? = some none)).map nint)))
      ⟨fun b o eb _ => (upd_ne (ne_of_none eb hD)).trans eb, upd_same⟩ ?_ ?_
    · rintro i H' hi ⟨kp, hD'⟩
      have hi2 : i < ts.length := by simpa using hi
      refine ⟨rfl, _, rfl, p, CF K, dx, fs, _, rfl, kp _ _ e (by simp), T.c_Frames, T.n_Frames_takers, ff.tt, _, rfl, t, _, _, enc ts[i], rfl, rfl, SqL.of (kp _ _ lt (by simp)), ?_, rfl, _, rfl, ?_⟩
      · rw [Int.zero_add]; exact get_enc (List.getElem?_eq_getElem hi2)
      · have hr2 : (List.range ts.length)[i]? = some i := by simp [hi2]
        have hx : decide (ts[i]? = some none) = decide (enc ts[i] = V.non) := by
          rw [List.getElem?_eq_getElem hi2]
          cases ts[i] <;> simp [enc]
        by_cases hc : enc ts[i] = V.non
        · rw [decide_eq_true hc] at hx ⊢
          refine iteT ⟨_, rfl, _, hD', ?_, fun b o eb hb => ?_, ?_⟩
          · rw [List.length_map]
            exact small1000 (Nat.le_trans (List.length_filter_le _ _) (by simp; omega))
          · rw [upd_ne (ne_of_none eb hD)]; exact kp b o eb hb
          · rw [upd_same, sel_yes nint (fun j => decide (ts[j]? = some none)) hr2 hx, Int.zero_add]; rfl
        · rw [decide_eq_false hc] at hx ⊢
          refine iteF ⟨kp, ?_⟩
          rw [hD', sel_no nint (fun j => decide (ts[j]? = some none)) hr2 hx]
    · rintro H' ⟨kp, hD'⟩
      refine q D H' hD kp ?_
      rw [hD']
      unfold stand
      rw [List.take_of_length_le (by simp)]
end

end Lw
namespace Lw
open PySem PySem.Spec L2 FG
open PyProof.Rows hiding St
section
variable {P : Program} {w : World} {K : PySem.W.Frag} {mg : Str → Option Value} {base : Heap}
theorem ok_row (T : Tx K mg) {fd : FuncData} {f : Addr} (F : Fun K "row" "Frames.row" s_Frames_row f fd) (m_need_begun : Met P w K mg base 3 (CF K) "need_begun" (spBeg (CF K))) : FnG P w K mg base 4 f fd ["self", "frame"] (spRow (CF K)) := by
  refine FnG.of F sc_Frames_row (fun vs H Q E h => ?_) (fun cdv A outer s H vs Q E hr h => ?_)
  · obtain ⟨p, h, t, hs, ts, n, rfl, _⟩ := h; rfl
  · obtain ⟨p, h, t, hs, ts, n, rfl, fr, hn, q⟩ := h
    obtain ⟨⟨dx, fs, e, ff⟩, lh, lt, ne, wf⟩ := id fr
    have ws := wf.small
    refine ⟨_, pss_cons (ps_expr (gm m_need_begun (hr.mono (by decide)) tkE (pv 0) (pa_cons (pv 1) (pa_nil))))
      (pss_cons (ps_set (i := 2) sc_Frames_row.nd rfl (by first | exact Or.inl rfl | exact Or.inr rfl) (pe_lst (pa_nil)))
      (pss_cons (ps_set (i := 3) sc_Frames_row.nd rfl (by first | exact Or.inl rfl | exact Or.inr rfl) (pv 1))
      (pss_cons (ps_while (passes_of rfl) (pt_cmpR op_notN (pv 3) (pe_non) (by first | exact nomark _ | rfl)) (pss_cons (ps_expr (kbm K PySem.F.plainAttrs_list PySem.F.slot_list_insert PySem.F.type_list_insert mt_insert (pv 2) (pa_cons (pe_int) (pa_cons (pv 3) (pa_nil)))))
      (pss_one (ps_set (i := 3) sc_Frames_row.nd rfl (by first | exact Or.inl rfl | exact Or.inr rfl) (pe_ix (kixL K) (kfld K (pv 0)) (pv 3) (fun _ _ => rfl))))))
      (pss_one (ps_ret (pv 2)))))), ?_⟩
    refine ⟨_, rfl, p, dx, fs, rfl, e, ff.no _ (by decide +kernel), _, rfl, p, h, t, hs, ts, n, rfl, fr, hn, by decide, fun l hl => ⟨_, rfl, ?_⟩⟩
    refine ⟨fun m σ H' => ∃ v tail, σ = [some (.ref p), some (nint n), some (.ref l), some v] ∧ Kp [] H H' ∧ H' l = some (.lst (tail.map nint)) ∧
      ((v = .non ∧ rowW hs n = tail) ∨ ∃ a : Nat, v = nint a ∧ a < hs.length ∧ m = a + 1 ∧ rowW hs n = rowW hs a ++ tail),
      ⟨n + 1, nint n, [], rfl, fun b o eb _ => (upd_ne (ne_of_none eb hl)).trans eb, upd_same, .inr ⟨n, rfl, hn, rfl, by simp⟩⟩, ?_⟩
    rintro m σ H' ⟨v, tail, rfl, kp, hL, hv⟩
    refine ⟨_, rfl, rfl, _, rfl, ?_⟩
    rcases hv with ⟨rfl, er⟩ | ⟨a, rfl, ha, rfl, er⟩
    · refine iteF ⟨_, rfl, q l H' hl kp ?_⟩
      rw [hL, er]
    · refine iteT ⟨fun σ' H'' => ∃ m', m' < a + 1 ∧ _, fun σ' H'' z => z, ?_⟩
      have hlen := row_len wf (n + 1) n (by omega) hn
      have hlt : tail.length ≤ 200 := by
        rw [er, List.length_append] at hlen; omega
      have hne : ∀ b o, H b = some o → b ≠ l := fun b o eb => ne_of_none eb hl
      refine ⟨_, rfl, .inl ⟨rfl, _, SqL.of hL⟩, _, rfl, l, _, 0, _, rfl, rfl, hL, (by rw [List.length_map]; exact small1000 (by omega)), by decide, by decide, ?_⟩
      have e1 : upd H' l (.lst ((tail.map nint).take (0 : Int).toNat ++ [nint a] ++ (tail.map nint).drop (0 : Int).toNat)) p = some (.ins (CF K) dx fs) := (upd_ne (hne _ _ e)).trans (kp _ _ e (by simp))
      have l1 : upd H' l (.lst ((tail.map nint).take (0 : Int).toNat ++ [nint a] ++ (tail.map nint).drop (0 : Int).toNat)) h = some (.lst (hs.map enc)) := (upd_ne (hne _ _ lh)).trans (kp _ _ lh (by simp))
      refine ⟨_, rfl, p, CF K, dx, fs, _, rfl, e1, T.c_Frames, T.n_Frames_holders, ff.hh, _, rfl, h, _, _, enc hs[a], rfl, rfl, SqL.of l1, get_enc (List.getElem?_eq_getElem ha), ?_⟩
      by_cases h0 : a = 0
      · subst h0
        have eh : hs[0] = none := by have := wf.root; rw [List.getElem?_eq_getElem wf.pos] at this; exact Option.some.inj this
        refine ⟨0, by omega, _, 0 :: tail, rfl, fun b o eb hb => (upd_ne (hne _ _ eb)).trans (kp b o eb hb), upd_same, .inl ⟨by rw [eh]; rfl, ?_⟩⟩
        rw [er, row_root wf]; rfl
      · obtain ⟨j, ej, hj⟩ := wf.up a (by omega) ha
        have eh : hs[a] = some (j : Int) := by rw [List.getElem?_eq_getElem ha] at ej; exact Option.some.inj ej
        refine ⟨j + 1, by omega, _, a :: tail, rfl, fun b o eb hb => (upd_ne (hne _ _ eb)).trans (kp b o eb hb), upd_same, .inr ⟨j, by rw [eh]; rfl, by omega, rfl, ?_⟩⟩
        rw [er, row_up ej hj, List.append_assoc]; rfl
theorem ok_finish (T : Tx K mg) {fd : FuncData} {f : Addr} (F : Fun K "finish" "Frames.finish" s_Frames_finish f fd) (m_need_standing : Met P w K mg base 4 (CF K) "need_standing" (spStd (CF K))) (m_standing : Met P w K mg base 1 (CF K) "standing" (spStanding (CF K)))
    (m_row : Met P w K mg base 4 (CF K) "row" (spRow (CF K))) (m_clear : Met P w K mg base 1 (CF K) "clear" spClear) : FnG P w K mg base 5 f fd ["self", "frame"] (spFin (CF K)) := by
  refine FnG.of F sc_Frames_finish (fun vs H Q E h => ?_) (fun cdv A outer s H vs Q E hr h => ?_)
  · obtain ⟨p, h, t, hs, ts, n, rfl, _⟩ := h; rfl
  · obtain ⟨p, h, t, hs, ts, n, rfl, fr, hn, h0, q⟩ := h
    obtain ⟨⟨dx, fs, e, ff⟩, lh, lt, ne, wf⟩ := id fr
    have ws := wf.small
    have wl := wf.len
    obtain ⟨ph, pt⟩ := fr.ph
    refine ⟨_, pss_cons (ps_expr (gm m_need_standing (hr.mono (by decide)) tkE (pv 0) (pa_cons (pv 1) (pa_nil))))
      (pss_cons (ps_if (pt_cmpR op_eq (pv 1) (pe_int) (by first | exact nomark _ | rfl)) (pss_one (ps_rais0 T.x_Ground T.g_Ground tkE)) (pss_nil))
      (pss_cons (ps_setLc (i := 2) (own := [("one", 3)]) (g := gName 3) rfl sc_Frames_finish.nd rfl rfl (sw_true rfl rfl rfl (by decide +kernel)) (kiRev K rfl T.z_reversed (pa_cons (gm0 m_standing (hr.mono (by decide)) tkE (pv 0)) (pa_nil))) (blkOk_by (own := [("one", 3)]) (N := ["self", "frame", "ended", "one"]) (sc := defScope s_Frames_finish) (by decide +kernel)) (fun _ _ _ _ _ => pg_name (i := 3) sc_Frames_finish.nd rfl (by first | exact Or.inl rfl | exact Or.inr rfl)) (fun _ _ _ _ _ => by exact pts_one (pt_cmpR (kin K) (pv 1) (gm m_row (hr.mono (by decide)) takes0 (pv 0) (pa_cons (pv 3) (pa_nil))) (by first | exact nomark _ | rfl))) (fun _ _ _ _ _ => by exact pv 3))
      (pss_cons (ps_for (passes_of rfl) rfl (kiL K (pv 2)) (pg_name (i := 3) sc_Frames_finish.nd rfl (by first | exact Or.inl rfl | exact Or.inr rfl))
        (pss_cons (ps_asg (pv 1) (pg_sub (kfld K (pv 0)) (pv 3) set_list))
      (pss_one (ps_expr (gm m_clear (hr.mono (by decide)) tkE (pv 0) (pa_cons (pv 3) (pa_nil)))))))
      (pss_one (ps_ret (pv 2)))))), ?_⟩
    refine ⟨_, rfl, p, dx, fs, rfl, e, ff.no _ (by decide +kernel), _, rfl, p, h, t, hs, ts, n, rfl, fr, hn, ?_⟩
    refine ⟨_, rfl, rfl, _, rfl, ?_⟩
    have z : decide (nint n = V.int 0) = false := decide_eq_false fun c => by unfold nint at c; injection c with c; omega
    rw [z]
    refine iteF ?_
    -- ended = [one for one in reversed(self.standing()) if frame in self.row(one)]
    refine ⟨_, rfl, p, dx, fs, rfl, e, ff.no _ (by decide +kernel), p, h, t, hs, ts, rfl, fr, fun l1 H1 hl1 k1 eL1 => ?_⟩
    refine ⟨l1, _, rfl, SqL.of eL1, fun D hD => ?_⟩
    have neD : ∀ b o, H1 b = some o → b ≠ D := fun b o eb => ne_of_none eb hD
    refine lc_it walk_rev (fun i H2 => Kp [] H1 H2 ∧ H2 D = some (.lst ((((stand ts).reverse.take i).filter fun k => decide (n ∈ rowW hs k)).map nint)))
      ⟨fun b o eb _ => (upd_ne (neD b o eb)).trans eb, upd_same⟩ (fun i H2 _ ⟨k2, _⟩ => SqL.of (k2 _ _ eL1 (by simp))) ?_ ?_
    · rintro i x H3 H2 hi ⟨k2, eD⟩ ⟨rfl, hx⟩
      rw [List.length_map] at hi hx
      obtain ⟨k, hk, rfl⟩ : ∃ k, (stand ts)[(stand ts).length - 1 - i]? = some k ∧ x = nint k := by
        rw [List.getElem?_map] at hx
        cases ek : (stand ts)[(stand ts).length - 1 - i]? with
        | none => rw [ek] at hx; cases hx
        | some k => rw [ek] at hx; exact ⟨k, rfl, (Option.some.inj hx).symm⟩
      have hr : (stand ts).reverse[i]? = some k := by rw [List.getElem?_reverse hi]; exact hk
      have hkt : ts[k]? = some none := mem_stand.mp (List.mem_of_getElem? hk)
      have hkl : k < hs.length := by have := (List.getElem?_eq_some_iff.mp hkt).1; omega
      have kH : Kp [] H H2 := k1.trans k2
      refine ⟨rfl, _, rfl, _, rfl, p, dx, fs, rfl, kH _ _ e (by simp), ff.no _ (by decide +kernel), _, rfl, p, h, t, hs, ts, k, rfl, fr.kp0 kH, hkl, fun l4 H4 hl4 k4 eL4 => ?_⟩
      refine ⟨l4, _, rfl, .inl (SqL.of eL4), rfl, flat_nint _, _, rfl, ?_⟩
      have eD4 : H4 D = some (.lst ((((stand ts).reverse.take i).filter fun k => decide (n ∈ rowW hs k)).map nint)) := k4 _ _ eD (by simp)
      show if inV (.int (n : Int)) ((rowW hs k).map nint) = true then _ else _
      rw [inV_nint]
      by_cases hc : n ∈ rowW hs k
      · rw [decide_eq_true hc]
        refine iteT ⟨_, rfl, _, eD4, ?_, fun b o eb hb => ?_, ?_⟩
        · rw [List.length_map]
          have := stand_len ts
          refine small1000 (Nat.le_trans (List.length_filter_le _ _) (Nat.le_trans (List.length_take_le _ _) ?_))
          omega
        · rw [upd_ne (neD b o eb)]; exact (k2.trans k4) b o eb hb
        · rw [upd_same, sel_yes nint (fun k => decide (n ∈ rowW hs k)) hr (decide_eq_true hc)]
      · rw [decide_eq_false hc]
        refine iteF ⟨k2.trans k4, ?_⟩
        rw [eD4, sel_no nint (fun k => decide (n ∈ rowW hs k)) hr (decide_eq_false hc)]
    · rintro H2 ⟨k2, eD⟩
      have eD' : H2 D = some (.lst ((fin hs ts n).map nint)) := by
        rw [eD, List.length_map, ← List.length_reverse, List.take_length]; rfl
      have kH : Kp [] H H2 := k1.trans k2
      have hDH : H D = none := k1.free hD
      have Dt : D ≠ t := fun c => by rw [c, lt] at hDH; cases hDH
      refine ⟨_, rfl, D, rfl, ⟨_, SqL.of eD'⟩, for_list (K := K) (a := D) (xs := (fin hs ts n).map nint) (fun i σ H3 => ∃ v, σ = [some (.ref p), some (nint n), some (.ref D), v] ∧ Kp [t] H H3 ∧ H3 D = some (.lst ((fin hs ts n).map nint)) ∧
        H3 t = some (.lst ((taken ts ((fin hs ts n).take i) n).map enc))) ⟨none, rfl, fun b o eb _ => kH b o eb (by simp), eD', (kH _ _ lt (by simp)).trans rfl⟩ (fun i σ H3 _ ⟨_, _, _, eD3, _⟩ => SqL.of eD3) ?_ ?_⟩
      · rintro i x σ H3 hx ⟨v, rfl, k3, eD3, et3⟩
        obtain ⟨k, hk, rfl⟩ : ∃ k, (fin hs ts n)[i]? = some k ∧ x = nint k := by
          rw [List.getElem?_map] at hx
          cases ek : (fin hs ts n)[i]? with
          | none => rw [ek] at hx; cases hx
          | some k => rw [ek] at hx; exact ⟨k, rfl, (Option.some.inj hx).symm⟩
        have hkt : ts[k]? = some none := fin_stand (List.mem_of_getElem? hk)
        have hkl : k < ts.length := (List.getElem?_eq_some_iff.mp hkt).1
        refine ⟨_, rfl, _, rfl, p, CF K, dx, fs, _, rfl, k3 _ _ e (by simpa using pt), T.c_Frames, T.n_Frames_takers, ff.tt, _, rfl, _, _, _, k, rfl, rfl, et3, ?_, ?_⟩
        · unfold ixN
          rw [if_pos (by omega), if_pos (by rw [List.length_map, taken_len]; omega)]; rfl
        · refine ⟨_, rfl, p, dx, fs, rfl, (upd_ne pt).trans (k3 _ _ e (by simpa using pt)), ff.no _ (by decide +kernel), _, rfl, _, _, rfl, _, rfl, fun b o eb hb => ?_, (upd_ne Dt).trans eD3, ?_⟩
          · have hb2 : b ≠ t := by simpa using hb
            rw [upd_ne hb2]; exact k3 b o eb hb
          · rw [upd_same]
            unfold taken
            rw [foldl_more _ hk, List.map_set]; rfl
      · rintro σ H3 ⟨v, rfl, k3, eD3, et3⟩
        rw [List.length_map, List.take_length] at et3
        refine ⟨_, rfl, q D H3 hDH k3 ⟨⟨dx, fs, k3 _ _ e (by simpa using pt), ff⟩, k3 _ _ lh (by simpa using ne), et3, ne, wf.taken _ _⟩ eD3⟩
end

end Lw
namespace Lw
open PySem PySem.Spec L2 FG
open PyProof.Rows hiding St
/-! ### the law's own frames -/
/-- at m the law's dict, its lists at mh and mt -/
structure ModAt (H : Hp) (m mh mt : Addr) (hs ts : List (Option Int)) : Prop where
  d : H m = some (.dK [(.inr "holders", .ref mh), (.inr "takers", .ref mt)])
  lh : H mh = some (.lst (hs.map enc))
  lt : H mt = some (.lst (ts.map enc))
  ne : mh ≠ mt
theorem ModAt.kp {S : List Addr} {H H' : Hp} {m mh mt : Addr} {hs ts : List (Option Int)} (f : ModAt H m mh mt hs ts) (k : Kp S H H') (h1 : m ∉ S) (h2 : mh ∉ S) (h3 : mt ∉ S) : ModAt H' m mh mt hs ts :=
  ⟨k _ _ f.d h1, k _ _ f.lh h2, k _ _ f.lt h3, f.ne⟩
theorem ModAt.kp0 {H H' : Hp} {m mh mt : Addr} {hs ts : List (Option Int)} (f : ModAt H m mh mt hs ts) (k : Kp [] H H') : ModAt H' m mh mt hs ts := f.kp k (by simp) (by simp) (by simp)
theorem ModAt.getH {H : Hp} {m mh mt : Addr} {hs ts : List (Option Int)} (f : ModAt H m mh mt hs ts) : DGet H m (.str "holders") (some (.ref mh)) := by
  have z := DGet.k (k := Sum.inr ("holders" : Str)) f.d
  have e : valV [((.inr "holders" : Key), V.ref mh), (.inr "takers", .ref mt)] (Sum.inr ("holders" : Str)) = some (.ref mh) := by simp [valV]
  rw [e] at z; exact z
theorem ModAt.getT {H : Hp} {m mh mt : Addr} {hs ts : List (Option Int)} (f : ModAt H m mh mt hs ts) : DGet H m (.str "takers") (some (.ref mt)) := by
  have z := DGet.k (k := Sum.inr ("takers" : Str)) f.d
  have e : valV [((.inr "holders" : Key), V.ref mh), (.inr "takers", .ref mt)] (Sum.inr ("takers" : Str)) = some (.ref mt) := by
    have n1 : ¬ ((("holders" : Str)) = "takers") := by decide +kernel
    simp [valV, n1]
  rw [e] at z; exact z
def spModel : Sp := fun vs H Q _ => vs = [] ∧ ∀ m mh mt H', H m = none → H mh = none → H mt = none → Kp [] H H' → ModAt H' m mh mt [none] [none] → Q (.ref m) H'
def spLStanding : Sp := fun vs H Q _ => ∃ m mh mt hs ts, vs = [.ref m] ∧ ModAt H m mh mt hs ts ∧ ts.length ≤ 1000 ∧ ∀ l H', H l = none → Kp [] H H' → H' l = some (.lst ((stand ts).map nint)) → Q (.ref l) H'
def spLRow : Sp := fun vs H Q _ => ∃ m mh mt hs ts, ∃ n : Nat, vs = [.ref m, nint n] ∧ ModAt H m mh mt hs ts ∧ Wf hs ts ∧ n < hs.length ∧ ∀ l H', H l = none → Kp [] H H' → H' l = some (.lst ((rowW hs n).map nint)) → Q (.ref l) H'
def spLBegin : Sp := fun vs H Q _ => ∃ m mh mt hs ts, ∃ n : Nat, vs = [.ref m, nint n] ∧ ModAt H m mh mt hs ts ∧ hs.length ≤ 900 ∧ ts.length ≤ 900 ∧ ∀ H', Kp [mh, mt] H H' → ModAt H' m mh mt (hs ++ [some (n : Int)]) (ts ++ [none]) → Q (nint hs.length) H'
def spLFin : Sp := fun vs H Q _ => ∃ m mh mt hs ts, ∃ n : Nat, vs = [.ref m, nint n] ∧ ModAt H m mh mt hs ts ∧ Wf hs ts ∧ ∀ l H', H l = none → Kp [mt] H H' → ModAt H' m mh mt hs (taken ts (fin hs ts n) n) → H' l = some (.lst ((fin hs ts n).map nint)) → Q (.ref l) H'
section
variable {P : Program} {w : World} {K : PySem.W.Frag} {mg : Str → Option Value} {base : Heap}
theorem ok_model (T : Tx K mg) {fd : FuncData} (F : Fun K "_law_model" "_law_model" s__law_model (He.ga K "_law_model") fd) : FnG P w K mg base 1 (He.ga K "_law_model") fd [] spModel := by
  refine FnG.of F sc__law_model (fun vs H Q E h => ?_) (fun cdv A outer s H vs Q E hr h => ?_)
  · obtain ⟨rfl, _⟩ := h; rfl
  · obtain ⟨rfl, q⟩ := h
    refine ⟨_, pss_one (ps_ret (pe_disp (pps_cons (pe_str) (pe_lst (pa_cons (pe_non) (pa_nil))) (pps_cons (pe_str) (pe_lst (pa_cons (pe_non) (pa_nil))) (pps_nil))) (by rfl) (by rfl) (fun z => by cases z) (by decide))), ?_⟩
    refine fun m hm => ⟨by decide, fun mh hmh => ⟨by decide, fun mt hmt => ?_⟩⟩
    have n1 : mh ≠ m := fun c => by rw [c, upd_same] at hmh; cases hmh
    have n2 : mt ≠ mh := fun c => by rw [c, upd_same] at hmt; cases hmt
    have n3 : mt ≠ m := fun c => by rw [c, upd_ne n1.symm, upd_same] at hmt; cases hmt
    have h1 : H mh = none := by rw [upd_ne n1] at hmh; exact hmh
    have h2 : H mt = none := by rw [upd_ne n2, upd_ne n3] at hmt; exact hmt
    refine ⟨by rw [upd_ne n3.symm, upd_ne n1.symm, upd_same], [(.inr "holders", .ref mh), (.inr "takers", .ref mt)], rfl, (by show 2 ≤ 15; decide), ?_⟩
    have e : mergeK ([] : List (Key × V)) [(.inr "holders", .ref mh), (.inr "takers", .ref mt)] = [(.inr "holders", .ref mh), (.inr "takers", .ref mt)] := by
      have n1 : ¬ ((("holders" : Str)) = "takers") := by decide +kernel
      simp [mergeK, putK, n1]
    rw [e]
    refine q m mh mt _ hm h1 h2 (fun b o eb _ => ?_) ⟨upd_same, ?_, ?_, n2.symm⟩
    · rw [upd_ne (ne_of_none eb hm), upd_ne (ne_of_none eb h2), upd_ne (ne_of_none eb h1), upd_ne (ne_of_none eb hm)]; exact eb
    · rw [upd_ne n1, upd_ne n2.symm, upd_same]; rfl
    · rw [upd_ne n3, upd_same]; rfl
theorem ok_lstanding (T : Tx K mg) {fd : FuncData} (F : Fun K "_law_standing" "_law_standing" s__law_standing (He.ga K "_law_standing") fd) : FnG P w K mg base 1 (He.ga K "_law_standing") fd ["_law_model_here"] spLStanding := by
  refine FnG.of F sc__law_standing (fun vs H Q E h => ?_) (fun cdv A outer s H vs Q E hr h => ?_)
  · obtain ⟨m, mh, mt, hs, ts, rfl, _⟩ := h; rfl
  · obtain ⟨m, mh, mt, hs, ts, rfl, md, hz, q⟩ := h
    refine ⟨_, pss_one (ps_ret (pe_lc (own := [("_law_k", 1)]) (g := gName 1) rfl sc__law_standing.nd (pi_range1 rfl T.z_range (pa_cons (pe_callB (klen K) (by rfl) T.z_len PySem.boot_len (pa_cons (pe_dget hr.hu (pv 0) (pe_str) (fun _ _ => rfl)) (pa_nil))) (pa_nil))) (blkOk_by (own := [("_law_k", 1)]) (N := ["_law_model_here", "_law_k"]) (sc := defScope s__law_standing) (by decide +kernel)) (fun _ _ _ _ _ => pg_name (i := 1) sc__law_standing.nd rfl (by first | exact Or.inl rfl | exact Or.inr rfl)) (fun _ _ _ _ _ => by exact pts_one (pt_cmpR op_isN (pe_ix (kixL K) (pe_dget hr.hu (pv 0) (pe_str) (fun _ _ => rfl)) (pv 1) (fun _ _ => rfl)) (pe_non) (by first | exact nomark _ | rfl))) (fun _ _ _ _ _ => by exact pv 1))), ?_⟩
    refine ⟨_, rfl, m, _, rfl, md.getT, mt, _, rfl, .inl (SqL.of md.lt), _, rfl, (by rw [List.length_map]; omega), (by rw [List.length_map]; omega), fun D hD => ?_⟩
    refine lc_range (lo := 0) (n := _) (fun i H' => Kp [] H H' ∧ H' D = some (.lst ((((List.range ts.length).take i).filter fun j => decide (ts[j]? = some none)).map nint)))
      ⟨fun b o eb _ => (upd_ne (ne_of_none eb hD)).trans eb, upd_same⟩ ?_ ?_
    · rintro i H' hi ⟨kp, hD'⟩
      have hi2 : i < ts.length := by simpa using hi
      have md' := md.kp0 kp
      refine ⟨rfl, _, rfl, m, _, rfl, md'.getT, _, rfl, mt, _, _, enc ts[i], rfl, rfl, SqL.of md'.lt, ?_, rfl, _, rfl, ?_⟩
      · rw [Int.zero_add]; exact get_enc (List.getElem?_eq_getElem hi2)
      · have hr2 : (List.range ts.length)[i]? = some i := by simp [hi2]
        have hx : decide (ts[i]? = some none) = decide (enc ts[i] = V.non) := by
          rw [List.getElem?_eq_getElem hi2]
          cases ts[i] <;> simp [enc]
        by_cases hc : enc ts[i] = V.non
        · rw [decide_eq_true hc] at hx ⊢
          refine iteT ⟨_, rfl, _, hD', ?_, fun b o eb hb => ?_, ?_⟩
          · rw [List.length_map]
            exact small1000 (Nat.le_trans (List.length_filter_le _ _) (by simp; omega))
          · rw [upd_ne (ne_of_none eb hD)]; exact kp b o eb hb
          · rw [upd_same, sel_yes nint (fun j => decide (ts[j]? = some none)) hr2 hx, Int.zero_add]; rfl
        · rw [decide_eq_false hc] at hx ⊢
          refine iteF ⟨kp, ?_⟩
          rw [hD', sel_no nint (fun j => decide (ts[j]? = some none)) hr2 hx]
    · rintro H' ⟨kp, hD'⟩
      refine q D H' hD kp ?_
      rw [hD']
      unfold stand
      rw [List.take_of_length_le (by simp)]
theorem ok_lbegin (T : Tx K mg) {fd : FuncData} (F : Fun K "_law_begin" "_law_begin" s__law_begin (He.ga K "_law_begin") fd) : FnG P w K mg base 1 (He.ga K "_law_begin") fd ["_law_model_here", "_law_frame"] spLBegin := by
  refine FnG.of F sc__law_begin (fun vs H Q E h => ?_) (fun cdv A outer s H vs Q E hr h => ?_)
  · obtain ⟨m, mh, mt, hs, ts, n, rfl, _⟩ := h; rfl
  · obtain ⟨m, mh, mt, hs, ts, n, rfl, md, z1, z2, q⟩ := h
    obtain ⟨d, lh, lt, ne⟩ := id md
    have n1 : m ≠ mh := ne_of d lh (by intro c; cases c)
    have n2 : m ≠ mt := ne_of d lt (by intro c; cases c)
    refine ⟨_, pss_cons (ps_expr (kbm K PySem.F.plainAttrs_list PySem.F.slot_list_append PySem.F.type_list_append mt_append (pe_dget hr.hu (pv 0) (pe_str) (fun _ _ => rfl)) (pa_cons (pv 1) (pa_nil))))
      (pss_cons (ps_expr (kbm K PySem.F.plainAttrs_list PySem.F.slot_list_append PySem.F.type_list_append mt_append (pe_dget hr.hu (pv 0) (pe_str) (fun _ _ => rfl)) (pa_cons (pe_non) (pa_nil))))
      (pss_one (ps_ret (pe_op op_sub (pe_callB (klen K) (by rfl) T.z_len PySem.boot_len (pa_cons (pe_dget hr.hu (pv 0) (pe_str) (fun _ _ => rfl)) (pa_nil))) (pe_int))))), ?_⟩
    refine ⟨_, rfl, m, _, rfl, md.getH, .inl ⟨rfl, _, SqL.of lh⟩, _, rfl, mh, _, _, rfl, rfl, lh, (by rw [List.length_map]; exact small1000 (by omega)), ?_⟩
    have md1 : ModAt (upd H mh (.lst (hs.map enc ++ [nint n]))) m mh mt (hs ++ [some (n : Int)]) ts := ⟨(upd_ne n1).trans d, by rw [upd_same, List.map_append]; rfl, (upd_ne ne.symm).trans lt, ne⟩
    refine ⟨_, rfl, m, _, rfl, md1.getT, .inl ⟨rfl, _, SqL.of md1.lt⟩, mt, _, _, rfl, rfl, md1.lt, (by rw [List.length_map]; exact small1000 (by omega)), ?_⟩
    have md2 : ModAt (upd (upd H mh (.lst (hs.map enc ++ [nint n]))) mt (.lst (ts.map enc ++ [V.non]))) m mh mt (hs ++ [some (n : Int)]) (ts ++ [none]) := ⟨(upd_ne n2).trans md1.d, (upd_ne ne).trans md1.lh, by rw [upd_same, List.map_append]; rfl, ne⟩
    refine ⟨_, rfl, m, _, rfl, md2.getH, mh, _, rfl, .inl (SqL.of md2.lh), _, _, rfl, rfl, rt_of (b := nint hs.length) (congrArg V.int (by simp)) (q _ (fun b o eb hb => ?_) md2)⟩
    simp at hb
    rw [upd_ne hb.2, upd_ne hb.1]; exact eb
end

end Lw
namespace Lw
open PySem PySem.Spec L2 FG
open PyProof.Rows hiding St
section
variable {P : Program} {w : World} {K : PySem.W.Frag} {mg : Str → Option Value} {base : Heap}
theorem ok_lrow (T : Tx K mg) {fd : FuncData} (F : Fun K "_law_row" "_law_row" s__law_row (He.ga K "_law_row") fd) : FnG P w K mg base 1 (He.ga K "_law_row") fd ["_law_model_here", "_law_frame"] spLRow := by
  refine FnG.of F sc__law_row (fun vs H Q E h => ?_) (fun cdv A outer s H vs Q E hr h => ?_)
  · obtain ⟨m, mh, mt, hs, ts, n, rfl, _⟩ := h; rfl
  · obtain ⟨m, mh, mt, hs, ts, n, rfl, md, wf, hn, q⟩ := h
    have ws := wf.small
    refine ⟨_, pss_cons (ps_set (i := 2) sc__law_row.nd rfl (by first | exact Or.inl rfl | exact Or.inr rfl) (pe_lst (pa_cons (pv 1) (pa_nil))))
      (pss_cons (ps_while (passes_of rfl) (pt_cmpR op_notN (pe_ix (kixL K) (pe_dget hr.hu (pv 0) (pe_str) (fun _ _ => rfl)) (pe_ix (kixL K) (pv 2) (pe_int) (fun _ _ => rfl)) (fun _ _ => rfl)) (pe_non) (by first | exact nomark _ | rfl)) (pss_one (ps_set (i := 2) sc__law_row.nd rfl (by first | exact Or.inl rfl | exact Or.inr rfl) (pe_op op_cat (pe_lst (pa_cons (pe_ix (kixL K) (pe_dget hr.hu (pv 0) (pe_str) (fun _ _ => rfl)) (pe_ix (kixL K) (pv 2) (pe_int) (fun _ _ => rfl)) (fun _ _ => rfl)) (pa_nil))) (pv 2)))))
      (pss_one (ps_ret (pv 2)))), ?_⟩
    refine ⟨_, rfl, (by show 1 ≤ sizeLine; decide), fun l hl => ?_⟩
    refine ⟨fun x σ H' => ∃ l' tail, ∃ a : Nat, σ = [some (.ref m), some (nint n), some (.ref l')] ∧ Kp [] H H' ∧ H l' = none ∧ H' l' = some (.lst ((a :: tail).map nint)) ∧ a < hs.length ∧ x = a ∧ rowW hs n = rowW hs a ++ tail,
      ⟨n, l, [], n, rfl, fun b o eb _ => (upd_ne (ne_of_none eb hl)).trans eb, hl, upd_same, hn, rfl, by simp⟩, ?_⟩
    rintro a σ H' ⟨l', tail, a2, rfl, kp, hl', hL, ha, ex, er⟩
    subst ex
    have md' := md.kp0 kp
    have hlen := row_len wf (n + 1) n (by omega) hn
    have hlt : tail.length ≤ 200 := by rw [er, List.length_append] at hlen; omega
    refine ⟨_, rfl, m, _, rfl, md'.getH, _, rfl, l', _, _, nint a, rfl, rfl, SqL.of hL, atI_nat (j := 0) rfl, mh, _, _, enc hs[a], rfl, rfl, SqL.of md'.lh, get_enc (List.getElem?_eq_getElem ha), rfl, _, rfl, ?_⟩
    by_cases h0 : a = 0
    · subst h0
      have eh : hs[0] = none := by have := wf.root; rw [List.getElem?_eq_getElem wf.pos] at this; exact Option.some.inj this
      rw [eh]
      refine iteF ⟨_, rfl, q l' H' hl' kp ?_⟩
      rw [hL, er, row_root wf]; rfl
    · obtain ⟨j, ej, hj⟩ := wf.up a (by omega) ha
      have eh : hs[a] = some (j : Int) := by rw [List.getElem?_eq_getElem ha] at ej; exact Option.some.inj ej
      rw [eh]
      refine iteT ⟨fun σ' H'' => ∃ m', m' < a ∧ _, fun σ' H'' z => z, ?_⟩
      refine ⟨_, rfl, m, _, rfl, md'.getH, _, rfl, l', _, _, nint a, rfl, rfl, SqL.of hL, atI_nat (j := 0) rfl, mh, _, _, enc hs[a], rfl, rfl, SqL.of md'.lh, get_enc (List.getElem?_eq_getElem ha), (by show 1 ≤ sizeLine; decide), fun l1 h1 => ?_⟩
      have n1 : l' ≠ l1 := ne_of_none hL h1
      refine ⟨_, rfl, l1, l', _, _, rfl, rfl, upd_same, (upd_ne n1).trans hL, (by rw [List.length_map]; show 1 + (tail.length + 1) ≤ sizeLine; exact Nat.le_trans (by omega : _ ≤ 1000) (by decide)), fun l2 h2 => ?_⟩
      have n2 : l2 ≠ l1 := fun c => by rw [c, upd_same] at h2; cases h2
      have h2' : H' l2 = none := by rw [upd_ne n2] at h2; exact h2
      have kp2 : Kp [] H (upd (upd H' l1 (.lst [enc hs[a]])) l2 (.lst ([enc hs[a]] ++ ((a :: tail).map nint)))) := fun b o eb hb => by
        have z := kp b o eb hb
        rw [upd_ne (ne_of_none z h2'), upd_ne (ne_of_none z h1)]; exact z
      refine ⟨j, hj, l2, a :: tail, j, rfl, kp2, kp.free h2', ?_, by omega, rfl, ?_⟩
      · rw [upd_same, eh]; rfl
      · rw [er, row_up ej hj, List.append_assoc]; rfl
theorem ok_lfinish (T : Tx K mg) {fd : FuncData} (F : Fun K "_law_finish" "_law_finish" s__law_finish (He.ga K "_law_finish") fd) (c__law_standing : Cal P w K mg base 1 "_law_standing" spLStanding) (c__law_row : Cal P w K mg base 1 "_law_row" spLRow) :
    FnG P w K mg base 2 (He.ga K "_law_finish") fd ["_law_model_here", "_law_frame"] spLFin := by
  refine FnG.of F sc__law_finish (fun vs H Q E h => ?_) (fun cdv A outer s H vs Q E hr h => ?_)
  · obtain ⟨m, mh, mt, hs, ts, n, rfl, _⟩ := h; rfl
  · obtain ⟨m, mh, mt, hs, ts, n, rfl, md, wf, q⟩ := h
    obtain ⟨d, lh, lt, ne⟩ := id md
    have n2 : m ≠ mt := ne_of d lt (by intro c; cases c)
    have ws := wf.small
    have wl := wf.len
    refine ⟨_, pss_cons (ps_setLc (i := 2) (own := [("_law_k", 3)]) (g := gName 3) rfl sc__law_finish.nd rfl rfl (sw_true rfl rfl rfl (by decide +kernel)) (kiL K (krevL K (gc c__law_standing (hr.mono (by decide)) takes0 (pa_cons (pv 0) (pa_nil))))) (blkOk_by (own := [("_law_k", 3)]) (N := ["_law_model_here", "_law_frame", "_law_ended", "_law_k"]) (sc := defScope s__law_finish) (by decide +kernel)) (fun _ _ _ _ _ => pg_name (i := 3) sc__law_finish.nd rfl (by first | exact Or.inl rfl | exact Or.inr rfl)) (fun _ _ _ _ _ => by exact pts_one (pt_cmpR (kin K) (pv 1) (gc c__law_row (hr.mono (by decide)) takes0 (pa_cons (pv 0) (pa_cons (pv 3) (pa_nil)))) (by first | exact nomark _ | rfl))) (fun _ _ _ _ _ => by exact pv 3))
      (pss_cons (ps_for (passes_of rfl) rfl (kiL K (pv 2)) (pg_name (i := 3) sc__law_finish.nd rfl (by first | exact Or.inl rfl | exact Or.inr rfl))
        (pss_one (ps_asg (pv 1) (pg_sub (pe_dget hr.hu (pv 0) (pe_str) (fun _ _ => rfl)) (pv 3) set_list))))
      (pss_one (ps_ret (pv 2)))), ?_⟩
    refine ⟨_, rfl, m, mh, mt, hs, ts, rfl, md, by omega, fun l1 H1 hl1 k1 eL1 => ?_⟩
    refine ⟨l1, _, rfl, SqL.of eL1, fun l2 hl2 => ⟨l2, rfl, ⟨_, SqL.of upd_same⟩, fun D hD => ?_⟩⟩
    have k2 : Kp [] H1 (upd H1 l2 (.lst ((stand ts).map nint).reverse)) := fun b o eb _ => (upd_ne (ne_of_none eb hl2)).trans eb
    have eL2 : upd H1 l2 (.lst ((stand ts).map nint).reverse) l2 = some (.lst ((stand ts).reverse.map nint)) := by rw [upd_same, List.map_reverse]
    generalize hH2 : upd H1 l2 (.lst ((stand ts).map nint).reverse) = H2 at *
    have kH2 : Kp [] H H2 := k1.trans k2
    have neD : ∀ b o, H2 b = some o → b ≠ D := fun b o eb => ne_of_none eb hD
    refine lc_list (K := K) (a := l2) (xs := (stand ts).reverse.map nint) (fun i H3 => Kp [] H2 H3 ∧ H3 D = some (.lst ((((stand ts).reverse.take i).filter fun k => decide (n ∈ rowW hs k)).map nint)))
      ⟨fun b o eb _ => (upd_ne (neD b o eb)).trans eb, upd_same⟩ (fun i H3 _ ⟨k3, _⟩ => SqL.of (k3 _ _ eL2 (by simp))) ?_ ?_
    · rintro i x H3 hx ⟨k3, eD⟩
      obtain ⟨k, hr, rfl⟩ : ∃ k, (stand ts).reverse[i]? = some k ∧ x = nint k := by
        rw [List.getElem?_map] at hx
        cases ek : (stand ts).reverse[i]? with
        | none => rw [ek] at hx; cases hx
        | some k => rw [ek] at hx; exact ⟨k, rfl, (Option.some.inj hx).symm⟩
      have hkt : ts[k]? = some none := mem_stand.mp (List.mem_reverse.mp (List.mem_of_getElem? hr))
      have hkl : k < hs.length := by have := (List.getElem?_eq_some_iff.mp hkt).1; omega
      have hi : i < (stand ts).reverse.length := (List.getElem?_eq_some_iff.mp hr).1
      rw [List.length_reverse] at hi
      have sl := stand_len ts
      refine ⟨rfl, _, rfl, _, rfl, _, rfl, m, mh, mt, hs, ts, k, rfl, md.kp0 (kH2.trans k3), wf, hkl, fun l4 H4 hl4 k4 eL4 => ?_⟩
      refine ⟨l4, _, rfl, .inl (SqL.of eL4), rfl, flat_nint _, _, rfl, ?_⟩
      have eD4 : H4 D = some (.lst ((((stand ts).reverse.take i).filter fun k => decide (n ∈ rowW hs k)).map nint)) := k4 _ _ eD (by simp)
      show if inV (.int (n : Int)) ((rowW hs k).map nint) = true then _ else _
      rw [inV_nint]
      by_cases hc : n ∈ rowW hs k
      · rw [decide_eq_true hc]
        refine iteT ⟨_, rfl, _, eD4, ?_, fun b o eb hb => ?_, ?_⟩
        · rw [List.length_map]
          exact small1000 (Nat.le_trans (List.length_filter_le _ _) (Nat.le_trans (List.length_take_le _ _) (by omega)))
        · rw [upd_ne (neD b o eb)]; exact (k3.trans k4) b o eb hb
        · rw [upd_same, sel_yes nint (fun k => decide (n ∈ rowW hs k)) hr (decide_eq_true hc)]
      · rw [decide_eq_false hc]
        refine iteF ⟨k3.trans k4, ?_⟩
        rw [eD4, sel_no nint (fun k => decide (n ∈ rowW hs k)) hr (decide_eq_false hc)]
    · rintro H3 ⟨k3, eD⟩
      have eD' : H3 D = some (.lst ((fin hs ts n).map nint)) := by
        rw [eD, List.length_map, List.take_length]; rfl
      have kH : Kp [] H H3 := kH2.trans k3
      have hDH : H D = none := kH2.free hD
      have Dt : D ≠ mt := fun c => by rw [c, lt] at hDH; cases hDH
      refine ⟨_, rfl, D, rfl, ⟨_, SqL.of eD'⟩, for_list (K := K) (a := D) (xs := (fin hs ts n).map nint) (fun i σ H4 => ∃ v, σ = [some (.ref m), some (nint n), some (.ref D), v] ∧ Kp [mt] H H4 ∧ H4 D = some (.lst ((fin hs ts n).map nint)) ∧
        ModAt H4 m mh mt hs (taken ts ((fin hs ts n).take i) n)) ⟨none, rfl, fun b o eb _ => kH b o eb (by simp), eD', (md.kp0 kH)⟩ (fun i σ H4 _ ⟨_, _, _, eD4, _⟩ => SqL.of eD4) ?_ ?_⟩
      · rintro i x σ H4 hx ⟨v, rfl, k4, eD4, md4⟩
        obtain ⟨k, hk, rfl⟩ : ∃ k, (fin hs ts n)[i]? = some k ∧ x = nint k := by
          rw [List.getElem?_map] at hx
          cases ek : (fin hs ts n)[i]? with
          | none => rw [ek] at hx; cases hx
          | some k => rw [ek] at hx; exact ⟨k, rfl, (Option.some.inj hx).symm⟩
        have hkt : ts[k]? = some none := fin_stand (List.mem_of_getElem? hk)
        have hkl : k < ts.length := (List.getElem?_eq_some_iff.mp hkt).1
        refine ⟨_, rfl, _, rfl, m, _, rfl, md4.getT, _, rfl, _, _, _, k, rfl, rfl, md4.lt, ?_, ?_⟩
        · unfold ixN
          rw [if_pos (by omega), if_pos (by rw [List.length_map, taken_len]; omega)]; rfl
        · refine ⟨_, rfl, fun b o eb hb => ?_, (upd_ne Dt).trans eD4, ⟨(upd_ne n2).trans md4.d, (upd_ne ne).trans md4.lh, ?_, ne⟩⟩
          · have hb2 : b ≠ mt := by simpa using hb
            rw [upd_ne hb2]; exact k4 b o eb hb
          · rw [upd_same]
            unfold taken
            rw [foldl_more _ hk, List.map_set]; rfl
      · rintro σ H4 ⟨v, rfl, k4, eD4, md4⟩
        rw [List.length_map, List.take_length] at md4
        exact ⟨_, rfl, q D H4 hDH k4 md4 eD4⟩
end

end Lw
namespace Lw
open PySem PySem.Spec L2 FG
open PyProof.Rows hiding St
/-! ### small things about frames and their texts -/
/-- those that take are small -/
def TOk (ts : List (Option Int)) : Prop := ∀ i, some i ∈ ts → i.natAbs < 1000
theorem TOk.more {ts : List (Option Int)} (h : TOk ts) : TOk (ts ++ [none]) := fun i hi => by
  rcases List.mem_append.mp hi with z | z
  · exact h i z
  · simp at z
theorem TOk.taken {f : Nat} (hf : f < 1000) : ∀ (ks : List Nat) {ts : List (Option Int)}, TOk ts → TOk (taken ts ks f) := by
  intro ks
  induction ks with
  | nil => intro ts h; exact h
  | cons k ks ih =>
    intro ts h
    refine ih (ts := ts.set k (some (f : Int))) fun i hi => ?_
    rcases List.mem_or_eq_of_mem_set hi with z | z
    · exact h i z
    · cases z; omega
theorem taken_out {f : Nat} : ∀ (ks : List Nat) (ts : List (Option Int)) (i : Nat), i ∉ ks → (taken ts ks f)[i]? = ts[i]? := by
  intro ks
  induction ks with
  | nil => intro ts i _; rfl
  | cons k ks ih =>
    intro ts i h
    have h2 : ¬ i = k ∧ i ∉ ks := by simpa using h
    exact (ih _ i h2.2).trans (List.getElem?_set_ne (Ne.symm h2.1))
theorem ground_stays {hs ts : List (Option Int)} (w : Wf hs ts) (g : ts[0]? = some none) {f : Nat} (hf : 0 < f) : (taken ts (fin hs ts f) f)[0]? = some none := by
  rw [taken_out]
  · exact g
  · intro h
    unfold fin at h
    have h2 := of_decide_eq_true (List.mem_filter.mp h).2
    rw [row_root w] at h2
    simp at h2; omega
theorem and_if {c d : Bool} {X A B : Prop} (hX : (if d = true then A else B) → X) (h1 : c = true → d = true → A) (h2 : (c && d) = false → B) : if c = true then X else (if false = true then A else B) := by
  cases c with
  | false => exact iteF (iteF (h2 rfl))
  | true =>
    refine iteT (hX ?_)
    cases d with
    | false => exact iteF (h2 rfl)
    | true => exact iteT (h1 rfl rfl)
theorem or_no {c d : Bool} {X A B : Prop} (hX : (if d = true then A else B) → X) (hc : c = false) (hd : d = false) (h : B) : if c = true then (if true = true then A else B) else X := by
  subst hc hd
  exact iteF (hX (iteF h))
def pnint (n : Nat) : PyData := .int (n : Int)
theorem shw_nints {K : PySem.W.Frag} {l : Addr} {xs : List Nat} {H : Hp} (e : H l = some (.lst (xs.map nint))) (hx : ∀ x ∈ xs, x < 10000) (hl : xs.length ≤ 10000) : Shw K H (.ref l) (.list (xs.map pnint)) := by
  refine shw_at (.lst (SqL.of e) (dp_nint K H xs)) ?_ ?_ ?_
  · simp only [okD]
    refine okDs_of fun d hd => ?_
    obtain ⟨x, h, rfl⟩ := List.mem_map.mp hd
    have := hx x h
    have e1 : (10 : Nat) ^ 38 = 100000000000000000000000000000000000000 := by decide
    simp only [pnint, okD, decide_eq_true_eq, e1]; omega
  · simp only [PyData.bulk]
    rw [bulk_flat fun d hd => by obtain ⟨x, _, rfl⟩ := List.mem_map.mp hd; simp only [pnint, PyData.bulk], List.length_map]; omega
  · simp only [PyData.depth]
    rw [depth_flat fun d hd => by obtain ⟨x, _, rfl⟩ := List.mem_map.mp hd; simp only [pnint, PyData.depth]]; omega
theorem stand_lt {ts : List (Option Int)} {x : Nat} (h : x ∈ stand ts) : x < ts.length := (List.getElem?_eq_some_iff.mp (mem_stand.mp h)).1
theorem fin_lt {hs ts : List (Option Int)} {f x : Nat} (h : x ∈ fin hs ts f) : x < ts.length := (List.getElem?_eq_some_iff.mp (fin_stand h)).1

end Lw
namespace Lw
open PySem PySem.Spec L2 FG
open PyProof.Rows hiding St
/-- those that stand straight within n -/
def withinL (hs ts : List (Option Int)) (n : Nat) : List Nat := (stand ts).filter fun k => decide (hs[k]? = some (some (n : Int)))
theorem withinL_len (hs ts : List (Option Int)) (n : Nat) : (withinL hs ts n).length ≤ ts.length := Nat.le_trans (List.length_filter_le _ _) (stand_len ts)
theorem withinL_lt {hs ts : List (Option Int)} {n x : Nat} (h : x ∈ withinL hs ts n) : x < ts.length := stand_lt (List.mem_filter.mp h).1
theorem row_ind {hs ts : List (Option Int)} (w : Wf hs ts) {P : Nat → Prop} (h0 : P 0) (hs' : ∀ i j, 0 < i → i < hs.length → hs[i]? = some (some ((j : Nat) : Int)) → j < i → P j → P i) : ∀ i, i < hs.length → P i := by
  intro i
  induction i using Nat.strongRecOn with
  | _ i ih =>
    intro hi
    by_cases z : i = 0
    · subst z; exact h0
    · obtain ⟨j, e, hj⟩ := w.up i (by omega) hi
      exact hs' i j (by omega) hi e hj (ih j hj (by omega))
theorem row_self {hs ts : List (Option Int)} (w : Wf hs ts) {i : Nat} (hi : i < hs.length) : i ∈ rowW hs i := by
  refine row_ind w (P := fun i => i ∈ rowW hs i) ?_ (fun i j _ _ e hj _ => ?_) i hi
  · rw [row_root w]; simp
  · rw [row_up e hj]; simp
theorem row_sub {hs ts : List (Option Int)} (w : Wf hs ts) {i : Nat} (hi : i < hs.length) : ∀ r ∈ rowW hs i, ∀ s ∈ rowW hs r, s ∈ rowW hs i := by
  refine row_ind w (P := fun i => ∀ r ∈ rowW hs i, ∀ s ∈ rowW hs r, s ∈ rowW hs i) ?_ (fun i j _ _ e hj ih => ?_) i hi
  · intro r hr s hs'
    rw [row_root w] at hr
    have : r = 0 := by simpa using hr
    subst this; exact hs'
  · intro r hr s hs'
    have hr2 := hr
    rw [row_up e hj] at hr2 ⊢
    rcases List.mem_append.mp hr2 with z | z
    · exact List.mem_append_left _ (ih r z s hs')
    · have : r = i := by simpa using z
      subst this
      rw [row_up e hj] at hs'; exact hs'
theorem row_app {hs ts : List (Option Int)} (w : Wf hs ts) {x : Option Int} {i : Nat} (hi : i < hs.length) : rowW (hs ++ [x]) i = rowW hs i := by
  refine row_ind w (P := fun i => rowW (hs ++ [x]) i = rowW hs i) ?_ (fun i j h0 hi2 e hj ih => ?_) i hi
  · have e0 : (hs ++ [x])[0]? = some none := by rw [List.getElem?_append_left w.pos]; exact w.root
    rw [row_root w, rowW, e0]
  · have e1 : (hs ++ [x])[i]? = some (some (j : Int)) := by rw [List.getElem?_append_left hi2]; exact e
    rw [row_up e1 hj, row_up e hj, ih]
theorem mem_fin {hs ts : List (Option Int)} {f k : Nat} : k ∈ fin hs ts f ↔ ts[k]? = some none ∧ f ∈ rowW hs k := by
  unfold fin
  rw [List.mem_filter, List.mem_reverse, mem_stand, decide_eq_true_eq]
theorem taken_in {f : Nat} : ∀ (ks : List Nat) (ts : List (Option Int)) (k : Nat), k ∈ ks → k < ts.length → (taken ts ks f)[k]? = some (some (f : Int)) := by
  intro ks
  induction ks with
  | nil => intro ts k h; cases h
  | cons j ks ih =>
    intro ts k h hk
    show (taken (ts.set j (some (f : Int))) ks f)[k]? = _
    by_cases c : k ∈ ks
    · exact ih _ k c (by simpa using hk)
    · have e : k = j := by
        rcases List.mem_cons.mp h with z | z
        · exact z
        · exact absurd z c
      subst e
      rw [taken_out ks _ k c, List.getElem?_set_self hk]
/-- who stands stands with its whole row; what was ended by one lies within it -/
structure Hg (hs ts : List (Option Int)) : Prop where
  wf : Wf hs ts
  up : ∀ f, ts[f]? = some none → ∀ r ∈ rowW hs f, ts[r]? = some none
  by_ : ∀ f b, ts[f]? = some (some b) → ∃ k : Nat, b = (k : Int) ∧ k ∈ rowW hs f ∧ ts[k]? = some (some b)
theorem hg0 : Hg [none] [none] := by
  refine ⟨wf0, fun f hf r hr => ?_, fun f b hb => ?_⟩
  · have h1 : f < 1 := (List.getElem?_eq_some_iff.mp hf).1
    have h2 : f = 0 := by omega
    subst h2
    rw [row_root wf0] at hr
    have : r = 0 := by simpa using hr
    subst this; exact hf
  · have h1 : f < 1 := (List.getElem?_eq_some_iff.mp hb).1
    have h2 : f = 0 := by omega
    subst h2
    simp at hb
theorem Hg.begun {hs ts : List (Option Int)} (g : Hg hs ts) {f : Nat} (hf : ts[f]? = some none) (h100 : hs.length ≤ 100) : Hg (hs ++ [some (f : Int)]) (ts ++ [none]) := by
  have w := g.wf
  have wl := w.len
  have fl : f < ts.length := (List.getElem?_eq_some_iff.mp hf).1
  have w2 := w.begun (f := f) (by omega) h100
  have en : (hs ++ [some (f : Int)])[hs.length]? = some (some (f : Int)) := by simp
  have rn : rowW (hs ++ [some (f : Int)]) hs.length = rowW hs f ++ [hs.length] := by rw [row_up en (by omega), row_app w (by omega)]
  have app : ∀ {r : Nat}, ts[r]? = some none → (ts ++ [none])[r]? = some none := fun {r} h => by
    rw [List.getElem?_append_left (List.getElem?_eq_some_iff.mp h).1]; exact h
  have last : (ts ++ [none])[hs.length]? = some none := by rw [← wl]; simp
  refine ⟨w2, fun k hk r hr => ?_, fun k b hb => ?_⟩
  · by_cases c : k < hs.length
    · rw [row_app w c] at hr
      rw [List.getElem?_append_left (by omega)] at hk
      exact app (g.up k hk r hr)
    · have hk2 := (List.getElem?_eq_some_iff.mp hk).1
      have e : k = hs.length := by simp at hk2; omega
      subst e
      rw [rn] at hr
      rcases List.mem_append.mp hr with z | z
      · exact app (g.up f hf r z)
      · have : r = hs.length := by simpa using z
        subst this; exact last
  · by_cases c : k < hs.length
    · rw [List.getElem?_append_left (by omega)] at hb
      obtain ⟨j, e, h1, h2⟩ := g.by_ k b hb
      refine ⟨j, e, by rw [row_app w c]; exact h1, ?_⟩
      rw [List.getElem?_append_left (List.getElem?_eq_some_iff.mp h2).1]; exact h2
    · have hk2 := (List.getElem?_eq_some_iff.mp hb).1
      have e : k = hs.length := by simp at hk2; omega
      subst e
      rw [last] at hb; cases hb
theorem Hg.ended {hs ts : List (Option Int)} (g : Hg hs ts) {f : Nat} (hf : ts[f]? = some none) : Hg hs (taken ts (fin hs ts f) f) := by
  have w := g.wf
  have wl := w.len
  have fl : f < ts.length := (List.getElem?_eq_some_iff.mp hf).1
  have ff : f ∈ fin hs ts f := mem_fin.mpr ⟨hf, row_self w (by omega)⟩
  refine ⟨w.taken _ _, fun k hk r hr => ?_, fun k b hb => ?_⟩
  · have kl : k < ts.length := by have := (List.getElem?_eq_some_iff.mp hk).1; rwa [taken_len] at this
    by_cases c : k ∈ fin hs ts f
    · rw [taken_in _ _ _ c kl] at hk; cases hk
    · rw [taken_out _ _ _ c] at hk
      have nf : f ∉ rowW hs k := fun z => c (mem_fin.mpr ⟨hk, z⟩)
      rw [taken_out]
      · exact g.up k hk r hr
      · exact fun z => nf (row_sub w (by omega) r hr f (mem_fin.mp z).2)
  · have kl : k < ts.length := by have := (List.getElem?_eq_some_iff.mp hb).1; rwa [taken_len] at this
    by_cases c : k ∈ fin hs ts f
    · rw [taken_in _ _ _ c kl] at hb
      cases hb
      exact ⟨f, rfl, (mem_fin.mp c).2, taken_in _ _ _ ff fl⟩
    · rw [taken_out _ _ _ c] at hb
      obtain ⟨j, e, h1, h2⟩ := g.by_ k b hb
      refine ⟨j, e, h1, ?_⟩
      rw [taken_out]
      · exact h2
      · exact fun z => by rw [(mem_fin.mp z).1] at h2; cases h2
theorem Hg.alone {hs ts : List (Option Int)} (g : Hg hs ts) {f : Nat} {b : Int} (hf : ts[f]? = some (some b)) : withinL hs ts f = [] := by
  have w := g.wf
  have wl := w.len
  unfold withinL
  rw [List.filter_eq_nil_iff]
  intro k hk z
  have hk2 := mem_stand.mp hk
  have e := of_decide_eq_true z
  have kl := (List.getElem?_eq_some_iff.mp hk2).1
  by_cases k0 : k = 0
  · subst k0; rw [w.root] at e; cases e
  · obtain ⟨j, e2, hj⟩ := w.up k (by omega) (by omega)
    rw [e] at e2
    have ej : f = j := by injection e2 with e2; injection e2 with e2; omega
    subst ej
    have := g.up k hk2 f (by rw [row_up e hj]; exact List.mem_append_left _ (row_self w (by omega)))
    rw [this] at hf; cases hf

end Lw
namespace Lw
open PySem PySem.Spec L2 FG
open PyProof.Rows hiding St
def spInside (C : Addr) : Sp := fun vs H Q _ => ∃ p h t hs ts, ∃ (n : Nat) (o : Option Int), vs = [.ref p, nint n] ∧ FrAt C H p h t hs ts ∧ hs[n]? = some o ∧ Q (enc o) H
def spWithin (C : Addr) : Sp := fun vs H Q _ => ∃ p h t hs ts, ∃ n : Nat, vs = [.ref p, nint n] ∧ FrAt C H p h t hs ts ∧ n < hs.length ∧ ∀ l H', H l = none → Kp [] H H' → H' l = some (.lst ((withinL hs ts n).map nint)) → Q (.ref l) H'
def spLWithin : Sp := fun vs H Q _ => ∃ m mh mt hs ts, ∃ n : Nat, vs = [.ref m, nint n] ∧ ModAt H m mh mt hs ts ∧ Wf hs ts ∧ ∀ l H', H l = none → Kp [] H H' → H' l = some (.lst ((withinL hs ts n).map nint)) → Q (.ref l) H'
theorem scal_enc (o : Option Int) (n : Nat) : scal (enc o) (nint n) = true := by cases o <;> rfl
theorem enc_is (o : Option Int) (n : Nat) : decide (enc o = nint n) = decide (o = some (n : Int)) := by
  cases o with
  | none => simp [enc, nint]
  | some i => simp [enc, nint]
section
variable {P : Program} {w : World} {K : PySem.W.Frag} {mg : Str → Option Value} {base : Heap}
theorem ok_inside (T : Tx K mg) {fd : FuncData} {f : Addr} (F : Fun K "inside" "Frames.inside" s_Frames_inside f fd) (m_need_begun : Met P w K mg base 3 (CF K) "need_begun" (spBeg (CF K))) : FnG P w K mg base 4 f fd ["self", "frame"] (spInside (CF K)) := by
  refine FnG.of F sc_Frames_inside (fun vs H Q E h => ?_) (fun cdv A outer s H vs Q E hr h => ?_)
  · obtain ⟨p, h, t, hs, ts, n, o, rfl, _⟩ := h; rfl
  · obtain ⟨p, h, t, hs, ts, n, o, rfl, fr, hn, q⟩ := h
    obtain ⟨⟨dx, fs, e, ff⟩, lh, lt, ne, wf⟩ := id fr
    have hl := (List.getElem?_eq_some_iff.mp hn).1
    refine ⟨_, pss_cons (ps_expr (gm m_need_begun (hr.mono (by decide)) tkE (pv 0) (pa_cons (pv 1) (pa_nil))))
      (pss_one (ps_ret (pe_ix (kixL K) (kfld K (pv 0)) (pv 1) (fun _ _ => rfl)))), ?_⟩
    refine ⟨_, rfl, p, dx, fs, rfl, e, ff.no _ (by decide +kernel), _, rfl, p, h, t, hs, ts, n, rfl, fr, hl, ?_⟩
    exact ⟨_, rfl, p, CF K, dx, fs, _, rfl, e, T.c_Frames, T.n_Frames_holders, ff.hh, _, rfl, h, _, _, _, rfl, rfl, SqL.of lh, get_enc hn, q⟩
theorem ok_within (T : Tx K mg) {fd : FuncData} {f : Addr} (F : Fun K "within" "Frames.within" s_Frames_within f fd) (m_need_begun : Met P w K mg base 3 (CF K) "need_begun" (spBeg (CF K))) (m_standing : Met P w K mg base 1 (CF K) "standing" (spStanding (CF K))) :
    FnG P w K mg base 4 f fd ["self", "frame"] (spWithin (CF K)) := by
  refine FnG.of F sc_Frames_within (fun vs H Q E h => ?_) (fun cdv A outer s H vs Q E hr h => ?_)
  · obtain ⟨p, h, t, hs, ts, n, rfl, _⟩ := h; rfl
  · obtain ⟨p, h, t, hs, ts, n, rfl, fr, hn, q⟩ := h
    obtain ⟨⟨dx, fs, e, ff⟩, lh, lt, ne, wf⟩ := id fr
    have ws := wf.small
    have wl := wf.len
    have sl := stand_len ts
    refine ⟨_, pss_cons (ps_expr (gm m_need_begun (hr.mono (by decide)) tkE (pv 0) (pa_cons (pv 1) (pa_nil))))
      (pss_one (ps_ret (pe_lc (own := [("one", 2)]) (g := gName 2) rfl sc_Frames_within.nd (kiL K (gm0 m_standing (hr.mono (by decide)) tkE (pv 0))) (blkOk_by (own := [("one", 2)]) (N := ["self", "frame", "one"]) (sc := defScope s_Frames_within) (by decide +kernel)) (fun _ _ _ _ _ => pg_name (i := 2) sc_Frames_within.nd rfl (by first | exact Or.inl rfl | exact Or.inr rfl)) (fun _ _ _ _ _ => by exact pts_one (pt_cmpR op_eq (pe_ix (kixL K) (kfld K (pv 0)) (pv 2) (fun _ _ => rfl)) (pv 1) (by first | exact nomark _ | rfl))) (fun _ _ _ _ _ => by exact pv 2)))), ?_⟩
    refine ⟨_, rfl, p, dx, fs, rfl, e, ff.no _ (by decide +kernel), _, rfl, p, h, t, hs, ts, n, rfl, fr, hn, ?_⟩
    refine ⟨_, rfl, p, dx, fs, rfl, e, ff.no _ (by decide +kernel), p, h, t, hs, ts, rfl, fr, fun l1 H1 hl1 k1 eL1 => ⟨l1, rfl, ⟨_, SqL.of eL1⟩, fun D hD => ?_⟩⟩
    have neD : ∀ b o, H1 b = some o → b ≠ D := fun b o eb => ne_of_none eb hD
    refine lc_list (K := K) (a := l1) (xs := (stand ts).map nint) (fun i H3 => Kp [] H1 H3 ∧ H3 D = some (.lst ((((stand ts).take i).filter fun k => decide (hs[k]? = some (some (n : Int)))).map nint)))
      ⟨fun b o eb _ => (upd_ne (neD b o eb)).trans eb, upd_same⟩ (fun i H3 _ ⟨k3, _⟩ => SqL.of (k3 _ _ eL1 (by simp))) ?_ ?_
    · rintro i x H3 hx ⟨k3, eD⟩
      obtain ⟨k, hr, rfl⟩ : ∃ k, (stand ts)[i]? = some k ∧ x = nint k := by
        rw [List.getElem?_map] at hx
        cases ek : (stand ts)[i]? with
        | none => rw [ek] at hx; cases hx
        | some k => rw [ek] at hx; exact ⟨k, rfl, (Option.some.inj hx).symm⟩
      have hkt : ts[k]? = some none := mem_stand.mp (List.mem_of_getElem? hr)
      have hkl : k < hs.length := by have := (List.getElem?_eq_some_iff.mp hkt).1; omega
      have hi : i < (stand ts).length := (List.getElem?_eq_some_iff.mp hr).1
      have kH : Kp [] H H3 := k1.trans k3
      refine ⟨rfl, _, rfl, p, CF K, dx, fs, _, rfl, kH _ _ e (by simp), T.c_Frames, T.n_Frames_holders, ff.hh, _, rfl, h, _, _, _, rfl, rfl, SqL.of (kH _ _ lh (by simp)), get_enc (List.getElem?_eq_getElem hkl), _, rfl, scal_enc _ _, _, rfl, ?_⟩
      rw [enc_is]
      have hx2 : decide (hs[k]? = some (some (n : Int))) = decide (hs[k] = some (n : Int)) := by rw [List.getElem?_eq_getElem hkl]; simp
      by_cases hc : hs[k] = some (n : Int)
      · rw [decide_eq_true hc] at hx2 ⊢
        refine iteT ⟨_, rfl, _, eD, ?_, fun b o eb hb => ?_, ?_⟩
        · rw [List.length_map]
          exact small1000 (Nat.le_trans (List.length_filter_le _ _) (Nat.le_trans (List.length_take_le _ _) (by omega)))
        · rw [upd_ne (neD b o eb)]; exact k3 b o eb hb
        · rw [upd_same, sel_yes nint (fun k => decide (hs[k]? = some (some (n : Int)))) hr hx2]
      · rw [decide_eq_false hc] at hx2 ⊢
        refine iteF ⟨k3, ?_⟩
        rw [eD, sel_no nint (fun k => decide (hs[k]? = some (some (n : Int)))) hr hx2]
    · rintro H3 ⟨k3, eD⟩
      refine q D H3 (k1.free hD) (k1.trans k3) ?_
      rw [eD, List.length_map, List.take_length]; rfl
end

end Lw
namespace Lw
open PySem PySem.Spec L2 FG
open PyProof.Rows hiding St
/-! ### what is refused -/
def BadN (hs : List (Option Int)) (v : V) : Prop := ∀ n : Nat, v = nint n → ¬ n < hs.length
def OutNF (K : PySem.W.Frag) (H : Hp) (v : V) (E : XK) : Prop := ∀ d H', Kp [] H H' → H' d = some (.xd [("found", v)]) → E (.ref (He.ga K "NoFrame")) (some d) H'
def OutG (K : PySem.W.Frag) (H : Hp) (v : V) (i : Int) (E : XK) : Prop := ∀ d H', Kp [] H H' → H' d = some (.xd [("by", .int i), ("found", v)]) → E (.ref (He.ga K "Gone")) (some d) H'
def OutM (K : PySem.W.Frag) (H : Hp) (n : Nat) (E : XK) : Prop := ∀ d H', Kp [] H H' → H' d = some (.xd [("many", nint n)]) → E (.ref (He.ga K "TooMany")) (some d) H'
def OutGr (K : PySem.W.Frag) (H : Hp) (E : XK) : Prop := ∀ H', Kp [] H H' → E (.ref (He.ga K "Ground")) none H'
/-- no number, or of one that has ended -/
def StdX (K : PySem.W.Frag) (H : Hp) (hs ts : List (Option Int)) (v : V) (E : XK) : Prop := (BadN hs v ∧ OutNF K H v E) ∨ ∃ (n : Nat) (i : Int), v = nint n ∧ ts[n]? = some (some i) ∧ OutG K H v i E
def spBegX (K : PySem.W.Frag) : Sp := fun vs H _ E => ∃ p h t hs ts v, vs = [.ref p, v] ∧ FrAt (CF K) H p h t hs ts ∧ Sh H v ∧ BadN hs v ∧ OutNF K H v E
def spStdX (K : PySem.W.Frag) : Sp := fun vs H _ E => ∃ p h t hs ts v, vs = [.ref p, v] ∧ FrAt (CF K) H p h t hs ts ∧ Sh H v ∧ StdX K H hs ts v E
def spMoreX (K : PySem.W.Frag) : Sp := fun vs H _ E => ∃ p h t hs ts, vs = [.ref p] ∧ FrAt (CF K) H p h t hs ts ∧ 100 < hs.length ∧ OutM K H hs.length E
def spBeginX (K : PySem.W.Frag) : Sp := fun vs H _ E => ∃ p h t hs ts v, vs = [.ref p, v] ∧ FrAt (CF K) H p h t hs ts ∧ Sh H v ∧ (StdX K H hs ts v E ∨ ∃ n : Nat, v = nint n ∧ ts[n]? = some none ∧ 100 < hs.length ∧ OutM K H hs.length E)
def spFinX (K : PySem.W.Frag) : Sp := fun vs H _ E => ∃ p h t hs ts v, vs = [.ref p, v] ∧ FrAt (CF K) H p h t hs ts ∧ Sh H v ∧ (StdX K H hs ts v E ∨ (v = nint 0 ∧ ts[0]? = some none ∧ OutGr K H E))
def spStandsT (K : PySem.W.Frag) : Sp := fun vs H Q _ => ∃ p h t hs ts v, vs = [.ref p, v] ∧ FrAt (CF K) H p h t hs ts ∧ Sh H v ∧ ∀ b : Bool, (b = true ↔ ∃ n : Nat, v = nint n ∧ ts[n]? = some none) → Q (.bl b) H
theorem FnG.or {P : Program} {w : World} {K : PySem.W.Frag} {mg : Str → Option Value} {base : Heap} {k : Nat} {f : Addr} {fd : FuncData} {ps : List Str} {sp sp' : Sp} (F : FnG P w K mg base k f fd ps sp) (F' : FnG P w K mg base k f fd ps sp') : FnG P w K mg base k f fd ps (fun vs H Q E => sp vs H Q E ∨ sp' vs H Q E) :=
  ⟨fun vs H Q E z => z.elim (F.nargs vs H Q E) (F'.nargs vs H Q E), fun A outer s H ar us vs Q E a b c d z => z.elim (F.goes A outer s H ar us vs Q E a b c d) (F'.goes A outer s H ar us vs Q E a b c d)⟩
def orS (a b : Sp) : Sp := fun vs H Q E => a vs H Q E ∨ b vs H Q E
theorem whole_bad {v : V} {n : Nat} (h : ∀ m : Nat, v = nint m → ¬ m < n) : wholeV v 0 ((n : Int) - 1) = false := by
  unfold wholeV
  cases v with
  | int z =>
    by_cases c : 0 ≤ z ∧ z ≤ (n : Int) - 1
    · exact absurd (show z.toNat < n by omega) (h z.toNat (by unfold nint; rw [Int.toNat_of_nonneg c.1]))
    · simpa using c
  | _ => rfl
theorem whole_good {m n : Nat} (h : m < n) : wholeV (nint m) 0 ((n : Int) - 1) = true := by
  unfold wholeV nint
  simp; omega
section
variable {P : Program} {w : World} {K : PySem.W.Frag} {mg : Str → Option Value} {base : Heap}
theorem ok_begunX (T : Tx K mg) {fd : FuncData} {f : Addr} (F : Fun K "need_begun" "Frames.need_begun" s_Frames_need_begun f fd) (c_is_whole : Cal P w K mg base 2 "is_whole" spWholeG) (r_NoFrame : Rai P w K mg base "NoFrame" (He.ga K "NoFrame") ["found"]) : FnG P w K mg base 3 f fd ["self", "frame"] (spBegX K) := by
  refine FnG.of F sc_Frames_need_begun (fun vs H Q E h => ?_) (fun cdv A outer s H vs Q E hr h => ?_)
  · obtain ⟨p, h, t, hs, ts, v, rfl, _⟩ := h; rfl
  · obtain ⟨p, h, t, hs, ts, v, rfl, ⟨⟨dx, fs, e, ff⟩, lh, lt, ne, wf⟩, sh, bad, o⟩ := h
    refine ⟨_, pss_one (ps_if (pt_not (pt_val (gc c_is_whole (hr.mono (by decide)) tkE (pa_cons (pv 1) (pa_cons (pe_int) (pa_cons (pe_op op_sub (pe_callB (klen K) (by rfl) T.z_len PySem.boot_len (pa_cons (kfld K (pv 0)) (pa_nil))) (pe_int)) (pa_nil))))))) (pss_one (ps_rais r_NoFrame (hr.mono (by decide)) tkE (pa_cons (pv 1) (pa_nil)))) (pss_nil)), ?_⟩
    refine ⟨_, rfl, _, rfl, p, CF K, dx, fs, _, rfl, e, T.c_Frames, T.n_Frames_holders, ff.hh, h, _, rfl, .inl (SqL.of lh), _, _, rfl, rfl, v, 0, _, rfl, sh, _, rfl, ?_⟩
    have z : wholeV v 0 (((hs.map enc).length : Int) - 1) = false := by rw [List.length_map]; exact whole_bad bad
    rw [z]
    refine iteT ⟨_, rfl, rfl, (by show 1 ≤ 10; decide), fun d hd => ?_⟩
    exact o d _ ((Kp.refl (S := [])).new hd) upd_same
theorem ok_stdX (T : Tx K mg) {fd : FuncData} {f : Addr} (F : Fun K "need_standing" "Frames.need_standing" s_Frames_need_standing f fd) (m_need_begun : Met P w K mg base 3 (CF K) "need_begun" (orS (spBeg (CF K)) (spBegX K))) (r_Gone : Rai P w K mg base "Gone" (He.ga K "Gone") ["found", "by"]) :
    FnG P w K mg base 4 f fd ["self", "frame"] (spStdX K) := by
  refine FnG.of F sc_Frames_need_standing (fun vs H Q E h => ?_) (fun cdv A outer s H vs Q E hr h => ?_)
  · obtain ⟨p, h, t, hs, ts, v, rfl, _⟩ := h; rfl
  · obtain ⟨p, h, t, hs, ts, v, rfl, fr, sh, o⟩ := h
    obtain ⟨⟨dx, fs, e, ff⟩, lh, lt, ne, wf⟩ := id fr
    refine ⟨_, pss_cons (ps_expr (gm m_need_begun (hr.mono (by decide)) tkE (pv 0) (pa_cons (pv 1) (pa_nil))))
      (pss_one (ps_if (pt_cmpR op_notN (pe_ix (kixL K) (kfld K (pv 0)) (pv 1) (fun _ _ => rfl)) (pe_non) (by first | exact nomark _ | rfl)) (pss_one (ps_rais r_Gone (hr.mono (by decide)) tkE (pa_cons (pv 1) (pa_cons (pe_ix (kixL K) (kfld K (pv 0)) (pv 1) (fun _ _ => rfl)) (pa_nil))))) (pss_nil))), ?_⟩
    rcases o with ⟨bad, o⟩ | ⟨n, i, rfl, hn, o⟩
    · exact ⟨_, rfl, p, dx, fs, rfl, e, ff.no _ (by decide +kernel), _, rfl, .inr ⟨p, h, t, hs, ts, v, rfl, fr, sh, bad, o⟩⟩
    · have hl := (List.getElem?_eq_some_iff.mp hn).1
      refine ⟨_, rfl, p, dx, fs, rfl, e, ff.no _ (by decide +kernel), _, rfl, .inl ⟨p, h, t, hs, ts, n, rfl, fr, wf.len ▸ hl, ?_⟩⟩
      refine ⟨_, rfl, p, CF K, dx, fs, _, rfl, e, T.c_Frames, T.n_Frames_takers, ff.tt, _, rfl, t, _, _, _, rfl, rfl, SqL.of lt, get_enc hn, rfl, _, rfl, iteT ?_⟩
      refine ⟨_, rfl, _, rfl, p, CF K, dx, fs, _, rfl, e, T.c_Frames, T.n_Frames_takers, ff.tt, _, rfl, t, _, _, _, rfl, rfl, SqL.of lt, get_enc hn, rfl, (by show 2 ≤ 10; decide), fun d hd => ?_⟩
      exact o d _ ((Kp.refl (S := [])).new hd) upd_same
theorem ok_moreX (T : Tx K mg) {fd : FuncData} {f : Addr} (F : Fun K "need_more" "Frames.need_more" s_Frames_need_more f fd) (r_TooMany : Rai P w K mg base "TooMany" (He.ga K "TooMany") ["many"]) : FnG P w K mg base 3 f fd ["self"] (spMoreX K) := by
  obtain ⟨tM, hg_MOST⟩ := T.i_MOST
  refine FnG.of F sc_Frames_need_more (fun vs H Q E h => ?_) (fun cdv A outer s H vs Q E hr h => ?_)
  · obtain ⟨p, h, t, hs, ts, rfl, _⟩ := h; rfl
  · obtain ⟨p, h, t, hs, ts, rfl, ⟨⟨dx, fs, e, ff⟩, lh, lt, ne, wf⟩, hn, o⟩ := h
    refine ⟨_, pss_one (ps_if (pt_cmpR op_gt (pe_callB (klen K) (by rfl) T.z_len PySem.boot_len (pa_cons (kfld K (pv 0)) (pa_nil))) (pe_glob (v := .int 100) rfl hg_MOST ⟨_, rfl⟩) (by first | exact nomark _ | rfl)) (pss_one (ps_rais r_TooMany (hr.mono (by decide)) tkE (pa_cons (pe_callB (klen K) (by rfl) T.z_len PySem.boot_len (pa_cons (kfld K (pv 0)) (pa_nil))) (pa_nil)))) (pss_nil)), ?_⟩
    refine ⟨_, rfl, p, CF K, dx, fs, _, rfl, e, T.c_Frames, T.n_Frames_holders, ff.hh, h, _, rfl, .inl (SqL.of lh), _, 100, rfl, rfl, _, rfl, ?_⟩
    have z : decide ((100 : Int) < ((hs.map enc).length : Int)) = true := by
      rw [List.length_map]; exact decide_eq_true (by omega)
    show if decide ((100 : Int) < ((hs.map enc).length : Int)) = true then _ else _
    rw [z]
    refine iteT ⟨_, rfl, p, CF K, dx, fs, _, rfl, e, T.c_Frames, T.n_Frames_holders, ff.hh, h, _, rfl, .inl (SqL.of lh), rfl, (by show 1 ≤ 10; decide), fun d hd => ?_⟩
    refine o d _ ((Kp.refl (S := [])).new hd) ?_
    rw [List.length_map]; exact upd_same
theorem ok_beginX (T : Tx K mg) {fd : FuncData} {f : Addr} (F : Fun K "begin" "Frames.begin" s_Frames_begin f fd) (m_need_standing : Met P w K mg base 4 (CF K) "need_standing" (orS (spStd (CF K)) (spStdX K))) (m_need_more : Met P w K mg base 3 (CF K) "need_more" (orS (spMore (CF K)) (spMoreX K))) :
    FnG P w K mg base 5 f fd ["self", "frame"] (spBeginX K) := by
  refine FnG.of F sc_Frames_begin (fun vs H Q E h => ?_) (fun cdv A outer s H vs Q E hr h => ?_)
  · obtain ⟨p, h, t, hs, ts, v, rfl, _⟩ := h; rfl
  · obtain ⟨p, h, t, hs, ts, v, rfl, fr, sh, o⟩ := h
    obtain ⟨⟨dx, fs, e, ff⟩, lh, lt, ne, wf⟩ := id fr
    refine ⟨_, pss_cons (ps_expr (gm m_need_standing (hr.mono (by decide)) tkE (pv 0) (pa_cons (pv 1) (pa_nil))))
      (pss_cons (ps_expr (gm0 m_need_more (hr.mono (by decide)) tkE (pv 0)))
      (pss_cons (ps_expr (kbm K PySem.F.plainAttrs_list PySem.F.slot_list_append PySem.F.type_list_append mt_append (kfld K (pv 0)) (pa_cons (pv 1) (pa_nil))))
      (pss_cons (ps_expr (kbm K PySem.F.plainAttrs_list PySem.F.slot_list_append PySem.F.type_list_append mt_append (kfld K (pv 0)) (pa_cons (pe_non) (pa_nil))))
      (pss_one (ps_ret (pe_op op_sub (pe_callB (klen K) (by rfl) T.z_len PySem.boot_len (pa_cons (kfld K (pv 0)) (pa_nil))) (pe_int))))))), ?_⟩
    rcases o with o | ⟨n, rfl, hn, h100, o⟩
    · exact ⟨_, rfl, p, dx, fs, rfl, e, ff.no _ (by decide +kernel), _, rfl, .inr ⟨p, h, t, hs, ts, v, rfl, fr, sh, o⟩⟩
    · exact ⟨_, rfl, p, dx, fs, rfl, e, ff.no _ (by decide +kernel), _, rfl, .inl ⟨p, h, t, hs, ts, n, rfl, fr, hn, _, rfl, p, dx, fs, rfl, e, ff.no _ (by decide +kernel), .inr ⟨p, h, t, hs, ts, rfl, fr, h100, o⟩⟩⟩
theorem ok_finX (T : Tx K mg) {fd : FuncData} {f : Addr} (F : Fun K "finish" "Frames.finish" s_Frames_finish f fd) (m_need_standing : Met P w K mg base 4 (CF K) "need_standing" (orS (spStd (CF K)) (spStdX K))) (m_standing : Met P w K mg base 1 (CF K) "standing" (spStanding (CF K)))
    (m_row : Met P w K mg base 4 (CF K) "row" (spRow (CF K))) (m_clear : Met P w K mg base 1 (CF K) "clear" spClear) : FnG P w K mg base 5 f fd ["self", "frame"] (spFinX K) := by
  refine FnG.of F sc_Frames_finish (fun vs H Q E h => ?_) (fun cdv A outer s H vs Q E hr h => ?_)
  · obtain ⟨p, h, t, hs, ts, v, rfl, _⟩ := h; rfl
  · obtain ⟨p, h, t, hs, ts, v, rfl, fr, sh, o⟩ := h
    obtain ⟨⟨dx, fs, e, ff⟩, lh, lt, ne, wf⟩ := id fr
    refine ⟨_, pss_cons (ps_expr (gm m_need_standing (hr.mono (by decide)) tkE (pv 0) (pa_cons (pv 1) (pa_nil))))
      (pss_cons (ps_if (pt_cmpR op_eq (pv 1) (pe_int) (by first | exact nomark _ | rfl)) (pss_one (ps_rais0 T.x_Ground T.g_Ground tkE)) (pss_nil))
      (pss_cons (ps_setLc (i := 2) (own := [("one", 3)]) (g := gName 3) rfl sc_Frames_finish.nd rfl rfl (sw_true rfl rfl rfl (by decide +kernel)) (kiRev K rfl T.z_reversed (pa_cons (gm0 m_standing (hr.mono (by decide)) tkE (pv 0)) (pa_nil))) (blkOk_by (own := [("one", 3)]) (N := ["self", "frame", "ended", "one"]) (sc := defScope s_Frames_finish) (by decide +kernel)) (fun _ _ _ _ _ => pg_name (i := 3) sc_Frames_finish.nd rfl (by first | exact Or.inl rfl | exact Or.inr rfl)) (fun _ _ _ _ _ => by exact pts_one (pt_cmpR (kin K) (pv 1) (gm m_row (hr.mono (by decide)) takes0 (pv 0) (pa_cons (pv 3) (pa_nil))) (by first | exact nomark _ | rfl))) (fun _ _ _ _ _ => by exact pv 3))
      (pss_cons (ps_for (passes_of rfl) rfl (kiL K (pv 2)) (pg_name (i := 3) sc_Frames_finish.nd rfl (by first | exact Or.inl rfl | exact Or.inr rfl))
        (pss_cons (ps_asg (pv 1) (pg_sub (kfld K (pv 0)) (pv 3) set_list))
      (pss_one (ps_expr (gm m_clear (hr.mono (by decide)) tkE (pv 0) (pa_cons (pv 3) (pa_nil)))))))
      (pss_one (ps_ret (pv 2)))))), ?_⟩
    rcases o with o | ⟨rfl, hn, o⟩
    · exact ⟨_, rfl, p, dx, fs, rfl, e, ff.no _ (by decide +kernel), _, rfl, .inr ⟨p, h, t, hs, ts, v, rfl, fr, sh, o⟩⟩
    · refine ⟨_, rfl, p, dx, fs, rfl, e, ff.no _ (by decide +kernel), _, rfl, .inl ⟨p, h, t, hs, ts, 0, rfl, fr, hn, ?_⟩⟩
      refine ⟨_, rfl, rfl, _, rfl, ?_⟩
      have z : decide (nint 0 = V.int 0) = true := decide_eq_true rfl
      rw [z]
      exact iteT (o _ Kp.refl)
theorem ok_insideX (T : Tx K mg) {fd : FuncData} {f : Addr} (F : Fun K "inside" "Frames.inside" s_Frames_inside f fd) (m_need_begun : Met P w K mg base 3 (CF K) "need_begun" (spBegX K)) : FnG P w K mg base 4 f fd ["self", "frame"] (spBegX K) := by
  refine FnG.of F sc_Frames_inside (fun vs H Q E h => ?_) (fun cdv A outer s H vs Q E hr h => ?_)
  · obtain ⟨p, h, t, hs, ts, v, rfl, _⟩ := h; rfl
  · obtain ⟨p, h, t, hs, ts, v, rfl, fr, sh, o⟩ := h
    obtain ⟨⟨dx, fs, e, ff⟩, lh, lt, ne, wf⟩ := id fr
    exact ⟨_, pss_cons (ps_expr (gm m_need_begun (hr.mono (by decide)) tkE (pv 0) (pa_cons (pv 1) (pa_nil))))
      (pss_one (ps_ret (pe_ix (kixL K) (kfld K (pv 0)) (pv 1) (fun _ _ => rfl)))), _, rfl, p, dx, fs, rfl, e, ff.no _ (by decide +kernel), _, rfl, p, h, t, hs, ts, v, rfl, fr, sh, o⟩
theorem ok_rowX (T : Tx K mg) {fd : FuncData} {f : Addr} (F : Fun K "row" "Frames.row" s_Frames_row f fd) (m_need_begun : Met P w K mg base 3 (CF K) "need_begun" (spBegX K)) : FnG P w K mg base 4 f fd ["self", "frame"] (spBegX K) := by
  refine FnG.of F sc_Frames_row (fun vs H Q E h => ?_) (fun cdv A outer s H vs Q E hr h => ?_)
  · obtain ⟨p, h, t, hs, ts, v, rfl, _⟩ := h; rfl
  · obtain ⟨p, h, t, hs, ts, v, rfl, fr, sh, o⟩ := h
    obtain ⟨⟨dx, fs, e, ff⟩, lh, lt, ne, wf⟩ := id fr
    exact ⟨_, pss_cons (ps_expr (gm m_need_begun (hr.mono (by decide)) tkE (pv 0) (pa_cons (pv 1) (pa_nil))))
      (pss_cons (ps_set (i := 2) sc_Frames_row.nd rfl (by first | exact Or.inl rfl | exact Or.inr rfl) (pe_lst (pa_nil)))
      (pss_cons (ps_set (i := 3) sc_Frames_row.nd rfl (by first | exact Or.inl rfl | exact Or.inr rfl) (pv 1))
      (pss_cons (ps_while (passes_of rfl) (pt_cmpR op_notN (pv 3) (pe_non) (by first | exact nomark _ | rfl)) (pss_cons (ps_expr (kbm K PySem.F.plainAttrs_list PySem.F.slot_list_insert PySem.F.type_list_insert mt_insert (pv 2) (pa_cons (pe_int) (pa_cons (pv 3) (pa_nil)))))
      (pss_one (ps_set (i := 3) sc_Frames_row.nd rfl (by first | exact Or.inl rfl | exact Or.inr rfl) (pe_ix (kixL K) (kfld K (pv 0)) (pv 3) (fun _ _ => rfl))))))
      (pss_one (ps_ret (pv 2)))))), _, rfl, p, dx, fs, rfl, e, ff.no _ (by decide +kernel), _, rfl, p, h, t, hs, ts, v, rfl, fr, sh, o⟩
theorem ok_withinX (T : Tx K mg) {fd : FuncData} {f : Addr} (F : Fun K "within" "Frames.within" s_Frames_within f fd) (m_need_begun : Met P w K mg base 3 (CF K) "need_begun" (spBegX K)) (m_standing : Met P w K mg base 1 (CF K) "standing" (spStanding (CF K))) : FnG P w K mg base 4 f fd ["self", "frame"] (spBegX K) := by
  refine FnG.of F sc_Frames_within (fun vs H Q E h => ?_) (fun cdv A outer s H vs Q E hr h => ?_)
  · obtain ⟨p, h, t, hs, ts, v, rfl, _⟩ := h; rfl
  · obtain ⟨p, h, t, hs, ts, v, rfl, fr, sh, o⟩ := h
    obtain ⟨⟨dx, fs, e, ff⟩, lh, lt, ne, wf⟩ := id fr
    exact ⟨_, pss_cons (ps_expr (gm m_need_begun (hr.mono (by decide)) tkE (pv 0) (pa_cons (pv 1) (pa_nil))))
      (pss_one (ps_ret (pe_lc (own := [("one", 2)]) (g := gName 2) rfl sc_Frames_within.nd (kiL K (gm0 m_standing (hr.mono (by decide)) tkE (pv 0))) (blkOk_by (own := [("one", 2)]) (N := ["self", "frame", "one"]) (sc := defScope s_Frames_within) (by decide +kernel)) (fun _ _ _ _ _ => pg_name (i := 2) sc_Frames_within.nd rfl (by first | exact Or.inl rfl | exact Or.inr rfl)) (fun _ _ _ _ _ => by exact pts_one (pt_cmpR op_eq (pe_ix (kixL K) (kfld K (pv 0)) (pv 2) (fun _ _ => rfl)) (pv 1) (by first | exact nomark _ | rfl))) (fun _ _ _ _ _ => by exact pv 2)))), _, rfl, p, dx, fs, rfl, e, ff.no _ (by decide +kernel), _, rfl, p, h, t, hs, ts, v, rfl, fr, sh, o⟩
theorem ok_byX (T : Tx K mg) {fd : FuncData} {f : Addr} (F : Fun K "ended_by" "Frames.ended_by" s_Frames_ended_by f fd) (m_need_begun : Met P w K mg base 3 (CF K) "need_begun" (spBegX K)) : FnG P w K mg base 4 f fd ["self", "frame"] (spBegX K) := by
  refine FnG.of F sc_Frames_ended_by (fun vs H Q E h => ?_) (fun cdv A outer s H vs Q E hr h => ?_)
  · obtain ⟨p, h, t, hs, ts, v, rfl, _⟩ := h; rfl
  · obtain ⟨p, h, t, hs, ts, v, rfl, fr, sh, o⟩ := h
    obtain ⟨⟨dx, fs, e, ff⟩, lh, lt, ne, wf⟩ := id fr
    exact ⟨_, pss_cons (ps_expr (gm m_need_begun (hr.mono (by decide)) tkE (pv 0) (pa_cons (pv 1) (pa_nil))))
      (pss_one (ps_ret (pe_ix (kixL K) (kfld K (pv 0)) (pv 1) (fun _ _ => rfl)))), _, rfl, p, dx, fs, rfl, e, ff.no _ (by decide +kernel), _, rfl, p, h, t, hs, ts, v, rfl, fr, sh, o⟩
theorem ok_standsT (T : Tx K mg) {fd : FuncData} {f : Addr} (F : Fun K "stands" "Frames.stands" s_Frames_stands f fd) (c_is_whole : Cal P w K mg base 2 "is_whole" spWholeG) : FnG P w K mg base 3 f fd ["self", "thing"] (spStandsT K) := by
  refine FnG.of F sc_Frames_stands (fun vs H Q E h => ?_) (fun cdv A outer s H vs Q E hr h => ?_)
  · obtain ⟨p, h, t, hs, ts, v, rfl, _⟩ := h; rfl
  · obtain ⟨p, h, t, hs, ts, v, rfl, ⟨⟨dx, fs, e, ff⟩, lh, lt, ne, wf⟩, sh, q⟩ := h
    have wl := wf.len
    refine ⟨_, pss_one (ps_ret (pe_and (gc c_is_whole (hr.mono (by decide)) takes0 (pa_cons (pv 1) (pa_cons (pe_int) (pa_cons (pe_op op_sub (pe_callB (klen K) (by rfl) T.z_len PySem.boot_len (pa_cons (kfld K (pv 0)) (pa_nil))) (pe_int)) (pa_nil))))) (pe_one (pe_cmpR op_isN (pe_ix (kixL K) (kfld K (pv 0)) (pv 1) (fun _ _ => rfl)) (pe_non) (by first | exact nomark _ | rfl))))), ?_⟩
    refine ⟨_, rfl, _, rfl, p, CF K, dx, fs, _, rfl, e, T.c_Frames, T.n_Frames_holders, ff.hh, h, _, rfl, .inl (SqL.of lh), _, _, rfl, rfl, v, 0, _, rfl, sh, _, rfl, ?_⟩
    rw [List.length_map]
    by_cases c : ∃ n : Nat, v = nint n ∧ n < hs.length
    · obtain ⟨n, rfl, hn⟩ := c
      rw [whole_good hn]
      have hl : n < ts.length := by omega
      refine iteT ⟨_, rfl, p, CF K, dx, fs, _, rfl, e, T.c_Frames, T.n_Frames_takers, ff.tt, _, rfl, t, _, _, _, rfl, rfl, SqL.of lt, get_enc (List.getElem?_eq_getElem hl), rfl, q _ ?_⟩
      rw [decide_eq_true_eq]
      constructor
      · intro z
        refine ⟨n, rfl, ?_⟩
        rw [List.getElem?_eq_getElem hl]
        cases y : ts[n] with
        | none => rfl
        | some i => rw [y] at z; cases z
      · rintro ⟨m, em, hm⟩
        have : m = n := by unfold nint at em; injection em with em; omega
        rw [this, List.getElem?_eq_getElem hl] at hm
        rw [Option.some.inj hm]; rfl
    · rw [whole_bad fun m em hm => c ⟨m, em, hm⟩]
      refine iteF (q _ ⟨(fun z => by cases z), ?_⟩)
      rintro ⟨m, em, hm⟩
      exact absurd ⟨m, em, by have := (List.getElem?_eq_some_iff.mp hm).1; omega⟩ c
end

end Lw
namespace Lw
open PySem PySem.Spec L2 FG
open PyProof.Rows hiding St
/-! ### frames and the law's frames tell the same -/
theorem pick {xs : List Nat} {z : Int} (h0 : 0 ≤ z) (h1 : z < xs.length) : ∃ x ∈ xs, atI (xs.map nint) z = some (nint x) := by
  obtain ⟨j, rfl⟩ : ∃ j : Nat, z = j := ⟨z.toNat, by omega⟩
  have hj : j < xs.length := by omega
  exact ⟨xs[j], List.getElem_mem hj, atI_nat (by rw [List.getElem?_map, List.getElem?_eq_getElem hj]; rfl)⟩
theorem pickV {xs : List V} {z : Int} (h0 : 0 ≤ z) (h1 : z < xs.length) : ∃ v ∈ xs, atI xs z = some v := by
  obtain ⟨j, rfl⟩ : ∃ j : Nat, z = j := ⟨z.toNat, by omega⟩
  have hj : j < xs.length := by omega
  exact ⟨xs[j], List.getElem_mem hj, atI_nat (List.getElem?_eq_getElem hj)⟩
def spOne : Sp := fun vs H Q _ => ∃ (b l : Addr) (n : Int) (xs : List Nat), vs = [.ref b, .ref l] ∧ BoxAt H b n ∧ n < 100000000 ∧ H l = some (.lst (xs.map nint)) ∧ b ≠ l ∧ xs ≠ [] ∧ xs.length ≤ 1000 ∧
  ∀ H' x, x ∈ xs → Kp [b] H H' → BoxAt H' b (n + 2) → Q (nint x) H'
/-- both tell the same frames -/
structure Pr (C : Addr) (H : Hp) (p h t m mh mt : Addr) (hs ts : List (Option Int)) : Prop where
  f : FrAt C H p h t hs ts
  m : ModAt H m mh mt hs ts
  g : ts[0]? = some none
  tk : TOk ts
  sep : [h, t, mh, mt].Nodup
theorem Pr.kp {S : List Addr} {C : Addr} {H H' : Hp} {p h t m mh mt : Addr} {hs ts : List (Option Int)} (x : Pr C H p h t m mh mt hs ts) (k : Kp S H H') (n : ∀ a ∈ S, a ∉ [p, h, t, m, mh, mt]) : Pr C H' p h t m mh mt hs ts :=
  ⟨x.f.kp k (fun z => n _ z (by simp)) (fun z => n _ z (by simp)) (fun z => n _ z (by simp)), x.m.kp k (fun z => n _ z (by simp)) (fun z => n _ z (by simp)) (fun z => n _ z (by simp)), x.g, x.tk, x.sep⟩
theorem Pr.kp0 {C : Addr} {H H' : Hp} {p h t m mh mt : Addr} {hs ts : List (Option Int)} (x : Pr C H p h t m mh mt hs ts) (k : Kp [] H H') : Pr C H' p h t m mh mt hs ts := x.kp k (fun _ z => by cases z)
section
variable {P : Program} {w : World} {K : PySem.W.Frag} {mg : Str → Option Value} {base : Heap}
theorem ok_one (T : Tx K mg) {fd : FuncData} (F : Fun K "_law_one" "_law_one" s__law_one (He.ga K "_law_one") fd) (c__law_take : Cal P w K mg base 1 "_law_take" spTake) : FnG P w K mg base 2 (He.ga K "_law_one") fd ["_law_box_here", "_law_some"] spOne := by
  refine FnG.of F sc__law_one (fun vs H Q E h => ?_) (fun cdv A outer s H vs Q E hr h => ?_)
  · obtain ⟨b, l, n, xs, rfl, _⟩ := h; rfl
  · obtain ⟨b, l, n, xs, rfl, hb, hn, hl, nbl, hx, hlen, q⟩ := h
    have pos : 0 < xs.length := List.length_pos_iff.mpr hx
    refine ⟨_, pss_cons (ps_set (i := 2) sc__law_one.nd rfl (by first | exact Or.inl rfl | exact Or.inr rfl) (gc c__law_take (hr.mono (by decide)) takes0 (pa_cons (pv 0) (pa_cons (pe_int) (pa_nil)))))
      (pss_cons (ps_set (i := 3) sc__law_one.nd rfl (by first | exact Or.inl rfl | exact Or.inr rfl) (gc c__law_take (hr.mono (by decide)) takes0 (pa_cons (pv 0) (pa_cons (pe_callB (klen K) (by rfl) T.z_len PySem.boot_len (pa_cons (pv 1) (pa_nil))) (pa_nil)))))
      (pss_one (ps_ret (pe_ix (kixL K) (pv 1) (pe_ix (kixL K) (pe_lst (pa_cons (pv 3) (pa_cons (pe_op op_sub (pe_callB (klen K) (by rfl) T.z_len PySem.boot_len (pa_cons (pv 1) (pa_nil))) (pe_int)) (pa_cons (pv 3) (pa_nil))))) (pv 2) (fun _ _ => rfl)) (fun _ _ => rfl))))), ?_⟩
    refine ⟨_, rfl, b, n, 3, rfl, hb, by omega, by decide, by decide, fun H1 way k1 hb1 w0 w1 => ?_⟩
    have hl1 : H1 l = some (.lst (xs.map nint)) := (k1 l nbl.symm).trans hl
    refine ⟨_, rfl, _, rfl, l, _, rfl, .inl (SqL.of hl1), b, n + 1, _, rfl, hb1, by omega, (by rw [List.length_map]; omega), (by rw [List.length_map]; exact Int.lt_of_le_of_lt (by omega : (xs.length : Int) ≤ 1000) (by decide)), fun H2 d k2 hb2 d0 d1 => ?_⟩
    rw [List.length_map] at d1
    have hl2 : H2 l = some (.lst (xs.map nint)) := (k2 l nbl.symm).trans hl1
    obtain ⟨z, hz, z0, z1⟩ : ∃ z : Int, atI [V.int d, V.int (((xs.map nint).length : Nat) - 1), V.int d] way = some (.int z) ∧ 0 ≤ z ∧ z < xs.length := by
      have hw : way = 0 ∨ way = 1 ∨ way = 2 := by omega
      rcases hw with rfl | rfl | rfl
      · exact ⟨d, rfl, d0, d1⟩
      · exact ⟨_, rfl, by rw [List.length_map]; omega, by rw [List.length_map]; omega⟩
      · exact ⟨d, rfl, d0, d1⟩
    obtain ⟨x, hxm, ex⟩ := pick z0 z1
    refine ⟨_, rfl, _, rfl, _, rfl, l, _, rfl, .inl (SqL.of hl2), _, _, rfl, rfl, _, rfl, (by show 3 ≤ sizeLine; decide), fun r hr2 => ?_⟩
    have nlr : l ≠ r := ne_of_none hl2 hr2
    refine ⟨_, rfl, r, _, _, _, rfl, rfl, SqL.of upd_same, hz, l, _, _, _, rfl, rfl, SqL.of ((upd_ne nlr).trans hl2), ex, ?_⟩
    obtain ⟨x', y', c', eb, _⟩ := id hb2
    refine q _ x hxm (fun a o ea ha => ?_) ((hb2.more (by omega)).kp (S := []) (fun a o ea _ => (upd_ne (ne_of_none ea hr2)).trans ea) (by simp))
    have := (k1.kp.trans k2.kp) a o ea ha
    exact (upd_ne (ne_of_none this hr2)).trans this
end

end Lw
namespace Lw
open PySem PySem.Spec L2 FG
open PyProof.Rows hiding St
/-! ### things, and what is due -/
inductive Thg (H : Hp) : V → PyData → Prop
  | non : Thg H .non .none
  | bl (b : Bool) : Thg H (.bl b) (.bool b)
  | int (i : Int) (h : i.natAbs < 10 ^ 37) : Thg H (.int i) (.int i)
  | str (z : Str) (h : okD (.str z) = true) (h2 : (PyData.str z).bulk ≤ 100) (h3 : z.length ≤ sizeLine) : Thg H (.str z) (.str z)
  | lst {a : Addr} (e : H a = some (.lst [.int 0])) : Thg H (.ref a) (.list [.int 0])
  | tup {a : Addr} (e : H a = some (.tup [.int 0])) : Thg H (.ref a) (.tuple [.int 0])
  | emp {a : Addr} (e : H a = some (.dK [])) : Thg H (.ref a) (.dict [])
theorem Thg.sh {H : Hp} {v : V} {d : PyData} (t : Thg H v d) : Sh H v := by
  cases t with
  | non => exact .non
  | bl b => exact .bl b
  | int i _ => exact .int i
  | str z _ _ h => exact .str z h
  | lst e => exact .lst e
  | tup e => exact .tup e
  | emp e => exact .dK e
theorem Thg.kp {H H' : Hp} {v : V} {d : PyData} (t : Thg H v d) (k : Kp [] H H') : Thg H' v d := by
  cases t with
  | non => exact .non
  | bl b => exact .bl b
  | int i h => exact .int i h
  | str z a b h => exact .str z a b h
  | lst e => exact .lst (k _ _ e (by simp))
  | tup e => exact .tup (k _ _ e (by simp))
  | emp e => exact .emp (k _ _ e (by simp))
/-- what the law says is due of a thing at a door -/
def dueI (hs ts : List (Option Int)) (way z : Int) : List V := if 0 ≤ z ∧ z < (hs.length : Int) then
      (if 1 < way then [.str "told"] else match ts[z.toNat]? with
        | some (some i) => [.str "gone", .int z, .int i]
        | _ => if way = 1 ∧ z = 0 then [.str "ground"] else if way = 0 ∧ 100 < hs.length then [.str "many", .int 101] else [.str "told"])
      else [.str "frame", .int z]
def dueV (hs ts : List (Option Int)) (way : Int) : V → List V
  | .int z => dueI hs ts way z
  | v => [.str "frame", v]
theorem due_bad {hs ts : List (Option Int)} {way : Int} {v : V} (h : BadN hs v) : dueV hs ts way v = [.str "frame", v] := by
  cases v with
  | int z =>
    have c : ¬ (0 ≤ z ∧ z < (hs.length : Int)) := fun c => h z.toNat (by unfold nint; rw [Int.toNat_of_nonneg c.1]) (by omega)
    show dueI hs ts way z = _
    unfold dueI
    exact if_neg c
  | _ => rfl
theorem due_num {hs ts : List (Option Int)} {way : Int} {n : Nat} (h : n < hs.length) : dueV hs ts way (nint n) = (if 1 < way then [.str "told"] else match ts[n]? with
        | some (some i) => [.str "gone", nint n, .int i]
        | _ => if way = 1 ∧ (n : Int) = 0 then [.str "ground"] else if way = 0 ∧ 100 < hs.length then [.str "many", .int 101] else [.str "told"]) := by
  show dueI hs ts way (n : Int) = _
  unfold dueI
  have c : (0 : Int) ≤ (n : Int) ∧ (n : Int) < (hs.length : Int) := ⟨by omega, by omega⟩
  rw [if_pos c, Int.toNat_natCast]
  rfl
theorem bad_or (hs : List (Option Int)) (v : V) : BadN hs v ∨ ∃ n : Nat, v = nint n ∧ n < hs.length := by
  by_cases c : ∃ n : Nat, v = nint n ∧ n < hs.length
  · exact .inr c
  · exact .inl fun n e h => c ⟨n, e, h⟩
/-- the caught one is of one of the four classes -/
def Kind4 (K : PySem.W.Frag) (cls : Value) : Prop := cls = .ref (He.ga K "NoFrame") ∨ cls = .ref (He.ga K "Gone") ∨ cls = .ref (He.ga K "Ground") ∨ cls = .ref (He.ga K "TooMany")
def spKinds (K : PySem.W.Frag) : SpX := fun a cls d vs H Q => vs = [.ref a] ∧ Kind4 K cls ∧ (∀ dd, d = some dd → ∃ fs, H dd = some (.xd fs)) ∧ ∀ H', Kp [] H H' → Q (.int 1) H'
def spCaught (K : PySem.W.Frag) : Sp := fun vs H Q _ => ∃ p h t m mh mt hs ts v dv, ∃ way : Int, vs = [.int way, .ref p, v] ∧ Pr (CF K) H p h t m mh mt hs ts ∧ Thg H v dv ∧ 0 ≤ way ∧ way < 6 ∧ (dueV hs ts way v = [.str "told"] → 2 ≤ way) ∧
  ∀ l H', H l = none → l ≠ sysModules → Kp [] H H' → H' l = some (.lst (dueV hs ts way v)) → Q (.ref l) H'
section
variable {P : Program} {w : World} {K : PySem.W.Frag} {mg : Str → Option Value} {base : Heap}
theorem ok_kinds (T : Tx K mg) {fd : FuncData} (F : Fun K "_law_kinds" "_law_kinds" s__law_kinds (He.ga K "_law_kinds") fd) : FnX P w K mg base 1 (He.ga K "_law_kinds") fd ["_law_e"] (spKinds K) := by
  refine FnX.of F sc__law_kinds (fun a cls d vs H Q h => ?_) (fun cdv A outer s H vs Q p cls d hr hz hf h => ?_)
  · obtain ⟨rfl, _⟩ := h; rfl
  · obtain ⟨rfl, kd, hd, q⟩ := h
    have hp : (p.1, p.2) ∈ (L2H.cxH (L2.CX P w) P w K mg base ["_law_e"] "_law_kinds" (defScope s__law_kinds) (He.ga K "_law_kinds") cdv A outer s H (fun _ _ _ => False) p).pn := List.mem_singleton.mpr rfl
    refine ⟨_, pss_one (ps_ret (kbm K PySem.F.plainAttrs_list PySem.F.slot_list_count PySem.F.type_list_count (kcntB K (hotU hr)) (pe_lst (pa_cons (pe_callB (call_isH hz hf hp) (by rfl) T.z_isinstance (by decide +kernel) (pa_cons (pv 0) (pa_cons (pe_glob (v := .ref (He.ga K "NoFrame")) rfl T.g_NoFrame rfl) (pa_nil)))) (pa_cons (pe_callB (call_isH hz hf hp) (by rfl) T.z_isinstance (by decide +kernel) (pa_cons (pv 0) (pa_cons (pe_glob (v := .ref (He.ga K "Gone")) rfl T.g_Gone rfl) (pa_nil)))) (pa_cons (pe_callB (call_isH hz hf hp) (by rfl) T.z_isinstance (by decide +kernel) (pa_cons (pv 0) (pa_cons (pe_glob (v := .ref (He.ga K "Ground")) rfl T.g_Ground rfl) (pa_nil)))) (pa_cons (pe_callB (call_isH hz hf hp) (by rfl) T.z_isinstance (by decide +kernel) (pa_cons (pv 0) (pa_cons (pe_glob (v := .ref (He.ga K "TooMany")) rfl T.g_TooMany rfl) (pa_nil)))) (pa_nil)))))) (pa_cons (pe_bl) (pa_nil)))), ?_⟩
    rcases kd with rfl | rfl | rfl | rfl
    · have xe := T.x_NoFrame.1.e
      refine ⟨_, rfl, _, .ref (He.ga K "NoFrame"), _, true, rfl, rfl, xe, (fun u h => h), T.y_NoFrame_NoFrame, hd, _, rfl, _, .ref (He.ga K "Gone"), _, false, rfl, rfl, xe, (fun u h => h), T.y_NoFrame_Gone, hd, _, rfl, _, .ref (He.ga K "Ground"), _, false, rfl, rfl, xe, (fun u h => h), T.y_NoFrame_Ground, hd, _, rfl, _, .ref (He.ga K "TooMany"), _, false, rfl, rfl, xe, (fun u h => h), T.y_NoFrame_TooMany, hd, (by show 4 ≤ sizeLine; decide), fun l hl => ?_⟩
      exact ⟨.inl ⟨rfl, _, SqL.of upd_same⟩, l, [true, false, false, false], true, rfl, rfl, SqL.of upd_same, q _ ((Kp.refl (S := [])).new hl)⟩
    · have xe := T.x_Gone.1.e
      refine ⟨_, rfl, _, .ref (He.ga K "NoFrame"), _, false, rfl, rfl, xe, (fun u h => h), T.y_Gone_NoFrame, hd, _, rfl, _, .ref (He.ga K "Gone"), _, true, rfl, rfl, xe, (fun u h => h), T.y_Gone_Gone, hd, _, rfl, _, .ref (He.ga K "Ground"), _, false, rfl, rfl, xe, (fun u h => h), T.y_Gone_Ground, hd, _, rfl, _, .ref (He.ga K "TooMany"), _, false, rfl, rfl, xe, (fun u h => h), T.y_Gone_TooMany, hd, (by show 4 ≤ sizeLine; decide), fun l hl => ?_⟩
      exact ⟨.inl ⟨rfl, _, SqL.of upd_same⟩, l, [false, true, false, false], true, rfl, rfl, SqL.of upd_same, q _ ((Kp.refl (S := [])).new hl)⟩
    · have xe := T.x_Ground.e
      refine ⟨_, rfl, _, .ref (He.ga K "NoFrame"), _, false, rfl, rfl, xe, (fun u h => h), T.y_Ground_NoFrame, hd, _, rfl, _, .ref (He.ga K "Gone"), _, false, rfl, rfl, xe, (fun u h => h), T.y_Ground_Gone, hd, _, rfl, _, .ref (He.ga K "Ground"), _, true, rfl, rfl, xe, (fun u h => h), T.y_Ground_Ground, hd, _, rfl, _, .ref (He.ga K "TooMany"), _, false, rfl, rfl, xe, (fun u h => h), T.y_Ground_TooMany, hd, (by show 4 ≤ sizeLine; decide), fun l hl => ?_⟩
      exact ⟨.inl ⟨rfl, _, SqL.of upd_same⟩, l, [false, false, true, false], true, rfl, rfl, SqL.of upd_same, q _ ((Kp.refl (S := [])).new hl)⟩
    · have xe := T.x_TooMany.1.e
      refine ⟨_, rfl, _, .ref (He.ga K "NoFrame"), _, false, rfl, rfl, xe, (fun u h => h), T.y_TooMany_NoFrame, hd, _, rfl, _, .ref (He.ga K "Gone"), _, false, rfl, rfl, xe, (fun u h => h), T.y_TooMany_Gone, hd, _, rfl, _, .ref (He.ga K "Ground"), _, false, rfl, rfl, xe, (fun u h => h), T.y_TooMany_Ground, hd, _, rfl, _, .ref (He.ga K "TooMany"), _, true, rfl, rfl, xe, (fun u h => h), T.y_TooMany_TooMany, hd, (by show 4 ≤ sizeLine; decide), fun l hl => ?_⟩
      exact ⟨.inl ⟨rfl, _, SqL.of upd_same⟩, l, [false, false, false, true], true, rfl, rfl, SqL.of upd_same, q _ ((Kp.refl (S := [])).new hl)⟩
end

end Lw
namespace Lw
open PySem PySem.Spec L2 FG
open PyProof.Rows hiding St
/-! ### one door, one thing: what is caught -/
theorem lk1 (f : Str) (v : V) : ([(f, v)] : List (Str × V)).lookup f = some v := by simp [List.lookup]
theorem lk_by (u v : V) : ([(("by" : Str), u), ("found", v)] : List (Str × V)).lookup ("by" : Str) = some u := by
  simp [List.lookup]
theorem lk_found (u v : V) : ([(("by" : Str), u), ("found", v)] : List (Str × V)).lookup ("found" : Str) = some v := by
  have e : ((("found" : Str)) == "by") = false := by decide +kernel
  simp [List.lookup, e]
section
variable {P : Program} {w : World} {K : PySem.W.Frag} {mg : Str → Option Value} {base : Heap}
theorem ok_caught (T : Tx K mg) {fd : FuncData} (F : Fun K "_law_caught" "_law_caught" s__law_caught (He.ga K "_law_caught") fd) (c__law_kinds : CalX P w K mg base 1 "_law_kinds" (spKinds K)) (m_begin : Met P w K mg base 5 (CF K) "begin" (orS (spBegin (CF K)) (spBeginX K))) (m_finish : Met P w K mg base 5 (CF K) "finish" (orS (spFin (CF K)) (spFinX K)))
    (m_inside : Met P w K mg base 4 (CF K) "inside" (orS (spInside (CF K)) (spBegX K))) (m_row : Met P w K mg base 4 (CF K) "row" (orS (spRow (CF K)) (spBegX K))) (m_within : Met P w K mg base 4 (CF K) "within" (orS (spWithin (CF K)) (spBegX K))) (m_ended_by : Met P w K mg base 4 (CF K) "ended_by" (orS (spBy (CF K)) (spBegX K))) :
    FnG P w K mg base 6 (He.ga K "_law_caught") fd ["_law_way", "_law_frames", "_law_thing"] (spCaught K) := by
  refine FnG.of F sc__law_caught (fun vs H Q E h => ?_) (fun cdv A outer s H vs Q E hr h => ?_)
  · obtain ⟨p, h, t, m, mh, mt, hs, ts, v, dv, way, rfl, _⟩ := h; rfl
  · obtain ⟨p, h, t, m, mh, mt, hs, ts, v, dv, way, rfl, pr, tg, w0, w6, hw, q⟩ := h
    have wf := pr.f.wf
    have wl := wf.len
    have ws := wf.small
    obtain ⟨dx, fs, e, ff⟩ := pr.f.ob
    refine ⟨_, pss_cons (ps_set (i := 3) sc__law_caught.nd rfl (by first | exact Or.inl rfl | exact Or.inr rfl) (pe_lstN (pa_cons (pe_str) (pa_nil))))
      (pss_cons (ps_mix sc__law_caught.nd takes0 (fun W pn xe tk po => pss_one (ps_if (pt_cmpR op_eq (pv 0) (pe_int) (by first | exact nomark _ | rfl)) (pss_one (ps_expr (gm m_begin (hr.mono (by decide)) tk (pv 1) (pa_cons (pv 2) (pa_nil))))) (pss_one (ps_if (pt_cmpR op_eq (pv 0) (pe_int) (by first | exact nomark _ | rfl)) (pss_one (ps_expr (gm m_finish (hr.mono (by decide)) tk (pv 1) (pa_cons (pv 2) (pa_nil))))) (pss_one (ps_if (pt_cmpR op_eq (pv 0) (pe_int) (by first | exact nomark _ | rfl)) (pss_one (ps_expr (gm m_inside (hr.mono (by decide)) tk (pv 1) (pa_cons (pv 2) (pa_nil))))) (pss_one (ps_if (pt_cmpR op_eq (pv 0) (pe_int) (by first | exact nomark _ | rfl)) (pss_one (ps_expr (gm m_row (hr.mono (by decide)) tk (pv 1) (pa_cons (pv 2) (pa_nil))))) (pss_one (ps_if (pt_cmpR op_eq (pv 0) (pe_int) (by first | exact nomark _ | rfl)) (pss_one (ps_expr (gm m_within (hr.mono (by decide)) tk (pv 1) (pa_cons (pv 2) (pa_nil))))) (pss_one (ps_expr (gm m_ended_by (hr.mono (by decide)) tk (pv 1) (pa_cons (pv 2) (pa_nil)))))))))))))))
        (.as (i := 4) ⟨rfl, by decide, .inl T.g_RoomError⟩ rfl (by first | rfl | decide +kernel) (fun a oe cls d pn hz hf => pss_cons (ps_set (i := 3) sc__law_caught.nd rfl (by first | exact Or.inl rfl | exact Or.inr rfl) (pe_lstN (pa_cons (pe_str) (pa_nil))))
      (pss_cons (ps_if (PW.pt (pw_and (pt_val (pe_callB (call_isX hz hf) (by rfl) T.z_isinstance (by decide +kernel) (pa_cons (pv 4) (pa_cons (pe_glob (v := .ref (He.ga K "NoFrame")) rfl T.g_NoFrame rfl) (pa_nil))))) (pw_and1 (pt_cmpR op_eq (gx c__law_kinds (hr.mono (by decide)) hz hf (pa_cons (pv 4) (pa_nil))) (pe_int) (by first | exact nomark _ | rfl))))) (pss_one (ps_set (i := 3) sc__law_caught.nd rfl (by first | exact Or.inl rfl | exact Or.inr rfl) (pe_lstN (pa_cons (pe_str) (pa_cons (pe_xg hz hf (pv 4)) (pa_nil)))))) (pss_nil))
      (pss_cons (ps_if (PW.pt (pw_and (pt_val (pe_callB (call_isX hz hf) (by rfl) T.z_isinstance (by decide +kernel) (pa_cons (pv 4) (pa_cons (pe_glob (v := .ref (He.ga K "Gone")) rfl T.g_Gone rfl) (pa_nil))))) (pw_and1 (pt_cmpR op_eq (gx c__law_kinds (hr.mono (by decide)) hz hf (pa_cons (pv 4) (pa_nil))) (pe_int) (by first | exact nomark _ | rfl))))) (pss_one (ps_set (i := 3) sc__law_caught.nd rfl (by first | exact Or.inl rfl | exact Or.inr rfl) (pe_lstN (pa_cons (pe_str) (pa_cons (pe_xg hz hf (pv 4)) (pa_cons (pe_xg hz hf (pv 4)) (pa_nil))))))) (pss_nil))
      (pss_cons (ps_if (PW.pt (pw_and (pt_val (pe_callB (call_isX hz hf) (by rfl) T.z_isinstance (by decide +kernel) (pa_cons (pv 4) (pa_cons (pe_glob (v := .ref (He.ga K "Ground")) rfl T.g_Ground rfl) (pa_nil))))) (pw_and1 (pt_cmpR op_eq (gx c__law_kinds (hr.mono (by decide)) hz hf (pa_cons (pv 4) (pa_nil))) (pe_int) (by first | exact nomark _ | rfl))))) (pss_one (ps_set (i := 3) sc__law_caught.nd rfl (by first | exact Or.inl rfl | exact Or.inr rfl) (pe_lstN (pa_cons (pe_str) (pa_nil))))) (pss_nil))
      (pss_one (ps_if (PW.pt (pw_and (pt_val (pe_callB (call_isX hz hf) (by rfl) T.z_isinstance (by decide +kernel) (pa_cons (pv 4) (pa_cons (pe_glob (v := .ref (He.ga K "TooMany")) rfl T.g_TooMany rfl) (pa_nil))))) (pw_and1 (pt_cmpR op_eq (gx c__law_kinds (hr.mono (by decide)) hz hf (pa_cons (pv 4) (pa_nil))) (pe_int) (by first | exact nomark _ | rfl))))) (pss_one (ps_set (i := 3) sc__law_caught.nd rfl (by first | exact Or.inl rfl | exact Or.inr rfl) (pe_lstN (pa_cons (pe_str) (pa_cons (pe_xg hz hf (pv 4)) (pa_nil)))))) (pss_nil))))))) .nil))
      (pss_one (ps_ret (pv 3)))), ?_⟩
    refine ⟨(by show 1 ≤ sizeLine; decide), fun l0 hl0 n0 => ?_⟩
    have k1 := (Kp.refl (S := []) (H := H)).new (o := .lst [.str "told"]) hl0
    have el0 : upd H l0 (.lst [.str "told"]) l0 = some (.lst [.str "told"]) := upd_same
    generalize upd H l0 (.lst [.str "told"]) = H1 at *
    have fr := (pr.kp0 k1).f
    have e1 := k1 _ _ e (by simp)
    have sh := (tg.kp k1).sh
    have way6 : way = 0 ∨ way = 1 ∨ way = 2 ∨ way = 3 ∨ way = 4 ∨ way = 5 := by omega
    rcases bad_or hs v with bad | ⟨n, rfl, hn⟩
    · have due : dueV hs ts way v = [.str "frame", v] := due_bad bad
      have o : ∀ {E : XK}, OutNF K H1 v E → StdX K H1 hs ts v E := fun z => .inl ⟨bad, z⟩
      rcases way6 with rfl | rfl | rfl | rfl | rfl | rfl
      refine ⟨_, rfl, rfl, _, rfl, ?_⟩
      rw [decide_eq_true (rfl : V.int 0 = V.int 0)]
      refine iteT ?_
      refine ⟨_, rfl, p, dx, fs, rfl, e1, ff.no _ (by decide +kernel), _, rfl, .inr ⟨p, h, t, hs, ts, v, rfl, fr, sh, .inl (o (fun d H2 k2 ed => ⟨true, T.e_NoFrame_RoomError, iteT fun ax hax => ?_⟩))⟩⟩
      rotate_left
      refine ⟨_, rfl, rfl, _, rfl, ?_⟩
      rw [decide_eq_false (by decide +kernel : ¬ V.int 1 = V.int 0)]
      refine iteF ?_
      refine ⟨_, rfl, rfl, _, rfl, ?_⟩
      rw [decide_eq_true (rfl : V.int 1 = V.int 1)]
      refine iteT ?_
      refine ⟨_, rfl, p, dx, fs, rfl, e1, ff.no _ (by decide +kernel), _, rfl, .inr ⟨p, h, t, hs, ts, v, rfl, fr, sh, .inl (o (fun d H2 k2 ed => ⟨true, T.e_NoFrame_RoomError, iteT fun ax hax => ?_⟩))⟩⟩
      rotate_left
      refine ⟨_, rfl, rfl, _, rfl, ?_⟩
      rw [decide_eq_false (by decide +kernel : ¬ V.int 2 = V.int 0)]
      refine iteF ?_
      refine ⟨_, rfl, rfl, _, rfl, ?_⟩
      rw [decide_eq_false (by decide +kernel : ¬ V.int 2 = V.int 1)]
      refine iteF ?_
      refine ⟨_, rfl, rfl, _, rfl, ?_⟩
      rw [decide_eq_true (rfl : V.int 2 = V.int 2)]
      refine iteT ?_
      refine ⟨_, rfl, p, dx, fs, rfl, e1, ff.no _ (by decide +kernel), _, rfl, .inr ⟨p, h, t, hs, ts, v, rfl, fr, sh, bad, fun d H2 k2 ed => ⟨true, T.e_NoFrame_RoomError, iteT fun ax hax => ?_⟩⟩⟩
      rotate_left
      refine ⟨_, rfl, rfl, _, rfl, ?_⟩
      rw [decide_eq_false (by decide +kernel : ¬ V.int 3 = V.int 0)]
      refine iteF ?_
      refine ⟨_, rfl, rfl, _, rfl, ?_⟩
      rw [decide_eq_false (by decide +kernel : ¬ V.int 3 = V.int 1)]
      refine iteF ?_
      refine ⟨_, rfl, rfl, _, rfl, ?_⟩
      rw [decide_eq_false (by decide +kernel : ¬ V.int 3 = V.int 2)]
      refine iteF ?_
      refine ⟨_, rfl, rfl, _, rfl, ?_⟩
      rw [decide_eq_true (rfl : V.int 3 = V.int 3)]
      refine iteT ?_
      refine ⟨_, rfl, p, dx, fs, rfl, e1, ff.no _ (by decide +kernel), _, rfl, .inr ⟨p, h, t, hs, ts, v, rfl, fr, sh, bad, fun d H2 k2 ed => ⟨true, T.e_NoFrame_RoomError, iteT fun ax hax => ?_⟩⟩⟩
      rotate_left
      refine ⟨_, rfl, rfl, _, rfl, ?_⟩
      rw [decide_eq_false (by decide +kernel : ¬ V.int 4 = V.int 0)]
      refine iteF ?_
      refine ⟨_, rfl, rfl, _, rfl, ?_⟩
      rw [decide_eq_false (by decide +kernel : ¬ V.int 4 = V.int 1)]
      refine iteF ?_
      refine ⟨_, rfl, rfl, _, rfl, ?_⟩
      rw [decide_eq_false (by decide +kernel : ¬ V.int 4 = V.int 2)]
      refine iteF ?_
      refine ⟨_, rfl, rfl, _, rfl, ?_⟩
      rw [decide_eq_false (by decide +kernel : ¬ V.int 4 = V.int 3)]
      refine iteF ?_
      refine ⟨_, rfl, rfl, _, rfl, ?_⟩
      rw [decide_eq_true (rfl : V.int 4 = V.int 4)]
      refine iteT ?_
      refine ⟨_, rfl, p, dx, fs, rfl, e1, ff.no _ (by decide +kernel), _, rfl, .inr ⟨p, h, t, hs, ts, v, rfl, fr, sh, bad, fun d H2 k2 ed => ⟨true, T.e_NoFrame_RoomError, iteT fun ax hax => ?_⟩⟩⟩
      rotate_left
      refine ⟨_, rfl, rfl, _, rfl, ?_⟩
      rw [decide_eq_false (by decide +kernel : ¬ V.int 5 = V.int 0)]
      refine iteF ?_
      refine ⟨_, rfl, rfl, _, rfl, ?_⟩
      rw [decide_eq_false (by decide +kernel : ¬ V.int 5 = V.int 1)]
      refine iteF ?_
      refine ⟨_, rfl, rfl, _, rfl, ?_⟩
      rw [decide_eq_false (by decide +kernel : ¬ V.int 5 = V.int 2)]
      refine iteF ?_
      refine ⟨_, rfl, rfl, _, rfl, ?_⟩
      rw [decide_eq_false (by decide +kernel : ¬ V.int 5 = V.int 3)]
      refine iteF ?_
      refine ⟨_, rfl, rfl, _, rfl, ?_⟩
      rw [decide_eq_false (by decide +kernel : ¬ V.int 5 = V.int 4)]
      refine iteF ?_
      refine ⟨_, rfl, p, dx, fs, rfl, e1, ff.no _ (by decide +kernel), _, rfl, .inr ⟨p, h, t, hs, ts, v, rfl, fr, sh, bad, fun d H2 k2 ed => ⟨true, T.e_NoFrame_RoomError, iteT fun ax hax => ?_⟩⟩⟩
      rotate_left
      all_goals
        refine ⟨(by show 1 ≤ sizeLine; decide), fun l1 hl1 n1 => ?_⟩
        have k3 := (Kp.refl (S := []) (H := H2)).new (o := .lst [.str "other"]) hl1
        generalize upd H2 l1 (.lst [.str "other"]) = H3 at *
        have ed3 := k3 _ _ ed (by simp)
        have kk := (k1.trans k2).trans k3
        refine ⟨_, rfl, _, .ref (He.ga K "NoFrame"), _, true, rfl, rfl, T.x_NoFrame.1.e, (fun u h => h), T.y_NoFrame_NoFrame, (fun dd z => by injection z with z; rw [← z]; exact ⟨_, ed3⟩), _, rfl, iteT ⟨_, rfl, rfl, .inl rfl, (fun dd z => by injection z with z; rw [← z]; exact ⟨_, ed3⟩), fun H4 k4 => ⟨rfl, _, rfl, iteT ?_⟩⟩⟩
        have ed4 := k4 _ _ ed3 (by simp)
        refine ⟨_, rfl, rfl, _, d, _, _, _, rfl, T.x_NoFrame.1, (by simp), rfl, ed4, lk1 _ _, (by show 2 ≤ sizeLine; decide), fun l2 hl2 n2 => ?_⟩
        have k5 := (Kp.refl (S := []) (H := H4)).new (o := .lst [.str "frame", v]) hl2
        have el5 : upd H4 l2 (.lst [.str "frame", v]) l2 = some (.lst [.str "frame", v]) := upd_same
        generalize upd H4 l2 (.lst [.str "frame", v]) = H5 at *
        have ed5 := k5 _ _ ed4 (by simp)
        refine ⟨_, rfl, _, .ref (He.ga K "Gone"), _, false, rfl, rfl, T.x_NoFrame.1.e, (fun u h => h), T.y_NoFrame_Gone, (fun dd z => by injection z with z; rw [← z]; exact ⟨_, ed5⟩), _, rfl, iteF (iteF ?_)⟩
        refine ⟨_, rfl, _, .ref (He.ga K "Ground"), _, false, rfl, rfl, T.x_NoFrame.1.e, (fun u h => h), T.y_NoFrame_Ground, (fun dd z => by injection z with z; rw [← z]; exact ⟨_, ed5⟩), _, rfl, iteF (iteF ?_)⟩
        refine ⟨_, rfl, _, .ref (He.ga K "TooMany"), _, false, rfl, rfl, T.x_NoFrame.1.e, (fun u h => h), T.y_NoFrame_TooMany, (fun dd z => by injection z with z; rw [← z]; exact ⟨_, ed5⟩), _, rfl, iteF (iteF ?_)⟩
        exact ⟨_, rfl, q l2 H5 ((kk.trans k4).free hl2) n2 ((kk.trans k4).trans k5) (by rw [el5, due])⟩
    by_cases c1 : 1 < way
    · have due : dueV hs ts way (nint n) = [.str "told"] := by rw [due_num hn, if_pos c1]
      have fin : ∀ {H'}, Kp [] H1 H' → Q (.ref l0) H' := fun {H'} k => q l0 H' hl0 n0 (k1.trans k) (by rw [k _ _ el0 (by simp), due])
      rcases way6 with rfl | rfl | rfl | rfl | rfl | rfl
      · omega
      · omega
      · refine ⟨_, rfl, rfl, _, rfl, ?_⟩
        rw [decide_eq_false (by decide +kernel : ¬ V.int 2 = V.int 0)]
        refine iteF ?_
        refine ⟨_, rfl, rfl, _, rfl, ?_⟩
        rw [decide_eq_false (by decide +kernel : ¬ V.int 2 = V.int 1)]
        refine iteF ?_
        refine ⟨_, rfl, rfl, _, rfl, ?_⟩
        rw [decide_eq_true (rfl : V.int 2 = V.int 2)]
        refine iteT ?_
        exact ⟨_, rfl, p, dx, fs, rfl, e1, ff.no _ (by decide +kernel), _, rfl, .inl ⟨p, h, t, hs, ts, n, _, rfl, fr, List.getElem?_eq_getElem hn, _, rfl, fin Kp.refl⟩⟩
      · refine ⟨_, rfl, rfl, _, rfl, ?_⟩
        rw [decide_eq_false (by decide +kernel : ¬ V.int 3 = V.int 0)]
        refine iteF ?_
        refine ⟨_, rfl, rfl, _, rfl, ?_⟩
        rw [decide_eq_false (by decide +kernel : ¬ V.int 3 = V.int 1)]
        refine iteF ?_
        refine ⟨_, rfl, rfl, _, rfl, ?_⟩
        rw [decide_eq_false (by decide +kernel : ¬ V.int 3 = V.int 2)]
        refine iteF ?_
        refine ⟨_, rfl, rfl, _, rfl, ?_⟩
        rw [decide_eq_true (rfl : V.int 3 = V.int 3)]
        refine iteT ?_
        exact ⟨_, rfl, p, dx, fs, rfl, e1, ff.no _ (by decide +kernel), _, rfl, .inl ⟨p, h, t, hs, ts, n, rfl, fr, hn, fun l2 H2 hl2 k2 el2 => ⟨_, rfl, fin k2⟩⟩⟩
      · refine ⟨_, rfl, rfl, _, rfl, ?_⟩
        rw [decide_eq_false (by decide +kernel : ¬ V.int 4 = V.int 0)]
        refine iteF ?_
        refine ⟨_, rfl, rfl, _, rfl, ?_⟩
        rw [decide_eq_false (by decide +kernel : ¬ V.int 4 = V.int 1)]
        refine iteF ?_
        refine ⟨_, rfl, rfl, _, rfl, ?_⟩
        rw [decide_eq_false (by decide +kernel : ¬ V.int 4 = V.int 2)]
        refine iteF ?_
        refine ⟨_, rfl, rfl, _, rfl, ?_⟩
        rw [decide_eq_false (by decide +kernel : ¬ V.int 4 = V.int 3)]
        refine iteF ?_
        refine ⟨_, rfl, rfl, _, rfl, ?_⟩
        rw [decide_eq_true (rfl : V.int 4 = V.int 4)]
        refine iteT ?_
        exact ⟨_, rfl, p, dx, fs, rfl, e1, ff.no _ (by decide +kernel), _, rfl, .inl ⟨p, h, t, hs, ts, n, rfl, fr, hn, fun l2 H2 hl2 k2 el2 => ⟨_, rfl, fin k2⟩⟩⟩
      · refine ⟨_, rfl, rfl, _, rfl, ?_⟩
        rw [decide_eq_false (by decide +kernel : ¬ V.int 5 = V.int 0)]
        refine iteF ?_
        refine ⟨_, rfl, rfl, _, rfl, ?_⟩
        rw [decide_eq_false (by decide +kernel : ¬ V.int 5 = V.int 1)]
        refine iteF ?_
        refine ⟨_, rfl, rfl, _, rfl, ?_⟩
        rw [decide_eq_false (by decide +kernel : ¬ V.int 5 = V.int 2)]
        refine iteF ?_
        refine ⟨_, rfl, rfl, _, rfl, ?_⟩
        rw [decide_eq_false (by decide +kernel : ¬ V.int 5 = V.int 3)]
        refine iteF ?_
        refine ⟨_, rfl, rfl, _, rfl, ?_⟩
        rw [decide_eq_false (by decide +kernel : ¬ V.int 5 = V.int 4)]
        refine iteF ?_
        exact ⟨_, rfl, p, dx, fs, rfl, e1, ff.no _ (by decide +kernel), _, rfl, .inl ⟨p, h, t, hs, ts, n, _, rfl, fr, List.getElem?_eq_getElem (by omega : n < ts.length), _, rfl, fin Kp.refl⟩⟩
    have way2 : way = 0 ∨ way = 1 := by omega
    have hnt : n < ts.length := by omega
    cases et : ts[n]? with
    | none => rw [List.getElem?_eq_getElem hnt] at et; cases et
    | some x =>
      cases x with
      | some i =>
        have due : dueV hs ts way (nint n) = [.str "gone", nint n, .int i] := by rw [due_num hn, if_neg c1, et]
        rcases way2 with rfl | rfl
        refine ⟨_, rfl, rfl, _, rfl, ?_⟩
        rw [decide_eq_true (rfl : V.int 0 = V.int 0)]
        refine iteT ?_
        refine ⟨_, rfl, p, dx, fs, rfl, e1, ff.no _ (by decide +kernel), _, rfl, .inr ⟨p, h, t, hs, ts, nint n, rfl, fr, sh, .inl (.inr ⟨n, i, rfl, et, fun d H2 k2 ed => ⟨true, T.e_Gone_RoomError, iteT fun ax hax => ?_⟩⟩)⟩⟩
        rotate_left
        refine ⟨_, rfl, rfl, _, rfl, ?_⟩
        rw [decide_eq_false (by decide +kernel : ¬ V.int 1 = V.int 0)]
        refine iteF ?_
        refine ⟨_, rfl, rfl, _, rfl, ?_⟩
        rw [decide_eq_true (rfl : V.int 1 = V.int 1)]
        refine iteT ?_
        refine ⟨_, rfl, p, dx, fs, rfl, e1, ff.no _ (by decide +kernel), _, rfl, .inr ⟨p, h, t, hs, ts, nint n, rfl, fr, sh, .inl (.inr ⟨n, i, rfl, et, fun d H2 k2 ed => ⟨true, T.e_Gone_RoomError, iteT fun ax hax => ?_⟩⟩)⟩⟩
        rotate_left
        all_goals
          refine ⟨(by show 1 ≤ sizeLine; decide), fun l1 hl1 n1 => ?_⟩
          have k3 := (Kp.refl (S := []) (H := H2)).new (o := .lst [.str "other"]) hl1
          generalize upd H2 l1 (.lst [.str "other"]) = H3 at *
          have ed3 := k3 _ _ ed (by simp)
          have kk := (k1.trans k2).trans k3
          refine ⟨_, rfl, _, .ref (He.ga K "NoFrame"), _, false, rfl, rfl, T.x_Gone.1.e, (fun u h => h), T.y_Gone_NoFrame, (fun dd z => by injection z with z; rw [← z]; exact ⟨_, ed3⟩), _, rfl, iteF (iteF ?_)⟩
          refine ⟨_, rfl, _, .ref (He.ga K "Gone"), _, true, rfl, rfl, T.x_Gone.1.e, (fun u h => h), T.y_Gone_Gone, (fun dd z => by injection z with z; rw [← z]; exact ⟨_, ed3⟩), _, rfl, iteT ⟨_, rfl, rfl, .inr (.inl rfl), (fun dd z => by injection z with z; rw [← z]; exact ⟨_, ed3⟩), fun H4 k4 => ⟨rfl, _, rfl, iteT ?_⟩⟩⟩
          have ed4 := k4 _ _ ed3 (by simp)
          refine ⟨_, rfl, rfl, _, d, _, _, _, rfl, T.x_Gone.1, (by simp), rfl, ed4, lk_found _ _, _, rfl, rfl, _, d, _, _, _, rfl, T.x_Gone.1, (by simp), rfl, ed4, lk_by _ _, (by show 3 ≤ sizeLine; decide), fun l2 hl2 n2 => ?_⟩
          have k5 := (Kp.refl (S := []) (H := H4)).new (o := .lst [.str "gone", nint n, .int i]) hl2
          have el5 : upd H4 l2 (.lst [.str "gone", nint n, .int i]) l2 = some (.lst [.str "gone", nint n, .int i]) := upd_same
          generalize upd H4 l2 (.lst [.str "gone", nint n, .int i]) = H5 at *
          have ed5 := k5 _ _ ed4 (by simp)
          refine ⟨_, rfl, _, .ref (He.ga K "Ground"), _, false, rfl, rfl, T.x_Gone.1.e, (fun u h => h), T.y_Gone_Ground, (fun dd z => by injection z with z; rw [← z]; exact ⟨_, ed5⟩), _, rfl, iteF (iteF ?_)⟩
          refine ⟨_, rfl, _, .ref (He.ga K "TooMany"), _, false, rfl, rfl, T.x_Gone.1.e, (fun u h => h), T.y_Gone_TooMany, (fun dd z => by injection z with z; rw [← z]; exact ⟨_, ed5⟩), _, rfl, iteF (iteF ?_)⟩
          exact ⟨_, rfl, q l2 H5 ((kk.trans k4).free hl2) n2 ((kk.trans k4).trans k5) (by rw [el5, due])⟩
      | none =>
        rcases way2 with rfl | rfl
        · by_cases h100 : 100 < hs.length
          · have hl101 : hs.length = 101 := by omega
            have due : dueV hs ts 0 (nint n) = [.str "many", nint hs.length] := by
              rw [due_num hn, if_neg c1, et]
              show (if (0 : Int) = 1 ∧ (n : Int) = 0 then _ else _) = _
              rw [if_neg (by omega), if_pos ⟨rfl, h100⟩, hl101]; rfl
            refine ⟨_, rfl, rfl, _, rfl, ?_⟩
            rw [decide_eq_true (rfl : V.int 0 = V.int 0)]
            refine iteT ?_
            refine ⟨_, rfl, p, dx, fs, rfl, e1, ff.no _ (by decide +kernel), _, rfl, .inr ⟨p, h, t, hs, ts, nint n, rfl, fr, sh, .inr ⟨n, rfl, et, h100, fun d H2 k2 ed => ⟨true, T.e_TooMany_RoomError, iteT fun ax hax => ?_⟩⟩⟩⟩
            refine ⟨(by show 1 ≤ sizeLine; decide), fun l1 hl1 n1 => ?_⟩
            have k3 := (Kp.refl (S := []) (H := H2)).new (o := .lst [.str "other"]) hl1
            generalize upd H2 l1 (.lst [.str "other"]) = H3 at *
            have ed3 := k3 _ _ ed (by simp)
            have kk := (k1.trans k2).trans k3
            refine ⟨_, rfl, _, .ref (He.ga K "NoFrame"), _, false, rfl, rfl, T.x_TooMany.1.e, (fun u h => h), T.y_TooMany_NoFrame, (fun dd z => by injection z with z; rw [← z]; exact ⟨_, ed3⟩), _, rfl, iteF (iteF ?_)⟩
            refine ⟨_, rfl, _, .ref (He.ga K "Gone"), _, false, rfl, rfl, T.x_TooMany.1.e, (fun u h => h), T.y_TooMany_Gone, (fun dd z => by injection z with z; rw [← z]; exact ⟨_, ed3⟩), _, rfl, iteF (iteF ?_)⟩
            refine ⟨_, rfl, _, .ref (He.ga K "Ground"), _, false, rfl, rfl, T.x_TooMany.1.e, (fun u h => h), T.y_TooMany_Ground, (fun dd z => by injection z with z; rw [← z]; exact ⟨_, ed3⟩), _, rfl, iteF (iteF ?_)⟩
            refine ⟨_, rfl, _, .ref (He.ga K "TooMany"), _, true, rfl, rfl, T.x_TooMany.1.e, (fun u h => h), T.y_TooMany_TooMany, (fun dd z => by injection z with z; rw [← z]; exact ⟨_, ed3⟩), _, rfl, iteT ⟨_, rfl, rfl, .inr (.inr (.inr rfl)), (fun dd z => by injection z with z; rw [← z]; exact ⟨_, ed3⟩), fun H4 k4 => ⟨rfl, _, rfl, iteT ?_⟩⟩⟩
            have ed4 := k4 _ _ ed3 (by simp)
            refine ⟨_, rfl, rfl, _, d, _, _, _, rfl, T.x_TooMany.1, (by simp), rfl, ed4, lk1 _ _, (by show 2 ≤ sizeLine; decide), fun l2 hl2 n2 => ?_⟩
            have k5 := (Kp.refl (S := []) (H := H4)).new (o := .lst [.str "many", nint hs.length]) hl2
            have el5 : upd H4 l2 (.lst [.str "many", nint hs.length]) l2 = some (.lst [.str "many", nint hs.length]) := upd_same
            generalize upd H4 l2 (.lst [.str "many", nint hs.length]) = H5 at *
            have ed5 := k5 _ _ ed4 (by simp)
            exact ⟨_, rfl, q l2 H5 ((kk.trans k4).free hl2) n2 ((kk.trans k4).trans k5) (by rw [el5, due])⟩
          · have due : dueV hs ts 0 (nint n) = [.str "told"] := by
              rw [due_num hn, if_neg c1, et]
              show (if (0 : Int) = 1 ∧ (n : Int) = 0 then _ else _) = _
              rw [if_neg (by omega), if_neg (fun z => h100 z.2)]
            exact absurd (hw due) (by omega)
        · by_cases h0 : n = 0
          · subst h0
            have due : dueV hs ts 1 (nint 0) = [.str "ground"] := by
              rw [due_num hn, if_neg c1, et]
              show (if (1 : Int) = 1 ∧ ((0 : Nat) : Int) = 0 then _ else _) = _
              rw [if_pos ⟨rfl, rfl⟩]
            refine ⟨_, rfl, rfl, _, rfl, ?_⟩
            rw [decide_eq_false (by decide +kernel : ¬ V.int 1 = V.int 0)]
            refine iteF ?_
            refine ⟨_, rfl, rfl, _, rfl, ?_⟩
            rw [decide_eq_true (rfl : V.int 1 = V.int 1)]
            refine iteT ?_
            refine ⟨_, rfl, p, dx, fs, rfl, e1, ff.no _ (by decide +kernel), _, rfl, .inr ⟨p, h, t, hs, ts, nint 0, rfl, fr, sh, .inr ⟨rfl, et, fun H2 k2 => ⟨true, T.e_Ground_RoomError, iteT fun ax hax => ?_⟩⟩⟩⟩
            refine ⟨(by show 1 ≤ sizeLine; decide), fun l1 hl1 n1 => ?_⟩
            have k3 := (Kp.refl (S := []) (H := H2)).new (o := .lst [.str "other"]) hl1
            generalize upd H2 l1 (.lst [.str "other"]) = H3 at *
            have kk := (k1.trans k2).trans k3
            refine ⟨_, rfl, _, .ref (He.ga K "NoFrame"), _, false, rfl, rfl, T.x_Ground.e, (fun u h => h), T.y_Ground_NoFrame, (fun dd z => by cases z), _, rfl, iteF (iteF ?_)⟩
            refine ⟨_, rfl, _, .ref (He.ga K "Gone"), _, false, rfl, rfl, T.x_Ground.e, (fun u h => h), T.y_Ground_Gone, (fun dd z => by cases z), _, rfl, iteF (iteF ?_)⟩
            refine ⟨_, rfl, _, .ref (He.ga K "Ground"), _, true, rfl, rfl, T.x_Ground.e, (fun u h => h), T.y_Ground_Ground, (fun dd z => by cases z), _, rfl, iteT ⟨_, rfl, rfl, .inr (.inr (.inl rfl)), (fun dd z => by cases z), fun H4 k4 => ⟨rfl, _, rfl, iteT ?_⟩⟩⟩
            refine ⟨(by show 1 ≤ sizeLine; decide), fun l2 hl2 n2 => ?_⟩
            have k5 := (Kp.refl (S := []) (H := H4)).new (o := .lst [.str "ground"]) hl2
            have el5 : upd H4 l2 (.lst [.str "ground"]) l2 = some (.lst [.str "ground"]) := upd_same
            generalize upd H4 l2 (.lst [.str "ground"]) = H5 at *
            refine ⟨_, rfl, _, .ref (He.ga K "TooMany"), _, false, rfl, rfl, T.x_Ground.e, (fun u h => h), T.y_Ground_TooMany, (fun dd z => by cases z), _, rfl, iteF (iteF ?_)⟩
            exact ⟨_, rfl, q l2 H5 ((kk.trans k4).free hl2) n2 ((kk.trans k4).trans k5) (by rw [el5, due])⟩
          · have due : dueV hs ts 1 (nint n) = [.str "told"] := by
              rw [due_num hn, if_neg c1, et]
              show (if (1 : Int) = 1 ∧ (n : Int) = 0 then _ else _) = _
              rw [if_neg (by omega), if_neg (by omega)]
            exact absurd (hw due) (by omega)
end

end Lw
namespace Lw
open PySem PySem.Spec L2 FG
open PyProof.Rows hiding St
/-! ### what is due, by the law -/
def spDue : Sp := fun vs H Q _ => ∃ m mh mt hs ts v dv, ∃ way : Int, vs = [.int way, .ref m, v] ∧ ModAt H m mh mt hs ts ∧ Wf hs ts ∧ Thg H v dv ∧ ∀ l H', H l = none → l ≠ sysModules → Kp [] H H' → H' l = some (.lst (dueV hs ts way v)) → Q (.ref l) H'
theorem Thg.num {H : Hp} {v : V} {d : PyData} (t : Thg H v d) : (∃ z, v = .int z) ∨ (numV v = false ∧ ∀ hs : List (Option Int), BadN hs v) := by
  cases t with
  | int i _ => exact .inl ⟨i, rfl⟩
  | _ => exact .inr ⟨rfl, fun hs n e => by cases e⟩
section
variable {P : Program} {w : World} {K : PySem.W.Frag} {mg : Str → Option Value} {base : Heap}
theorem ok_due (T : Tx K mg) {fd : FuncData} (F : Fun K "_law_due" "_law_due" s__law_due (He.ga K "_law_due") fd) : FnG P w K mg base 1 (He.ga K "_law_due") fd ["_law_way", "_law_model_here", "_law_thing"] spDue := by
  refine FnG.of F sc__law_due (fun vs H Q E h => ?_) (fun cdv A outer s H vs Q E hr h => ?_)
  · obtain ⟨m, mh, mt, hs, ts, v, dv, way, rfl, _⟩ := h; rfl
  · obtain ⟨m, mh, mt, hs, ts, v, dv, way, rfl, md, wf, tg, q⟩ := h
    have sh := tg.sh
    have wl := wf.len
    have ws := wf.small
    obtain ⟨t, ht, hi, hb, _, _⟩ := sh.ty K
    refine ⟨_, pss_cons (ps_set (i := 3) sc__law_due.nd rfl (by first | exact Or.inl rfl | exact Or.inr rfl) (pe_and (pe_callB (kisi K) (by rfl) T.z_isinstance (by decide +kernel) (pa_cons (pv 2) (pa_cons (pe_bltn (v := .ty "int") (by rfl) T.z_int (by decide +kernel) rfl) (pa_nil)))) (pe_one (pe_not (pe_callB (kisi K) (by rfl) T.z_isinstance (by decide +kernel) (pa_cons (pv 2) (pa_cons (pe_bltn (v := .ty "bool") (by rfl) T.z_bool (by decide +kernel) rfl) (pa_nil))))))))
      (pss_cons (ps_if (PW.pt (pw_or (pt_not (pt_val (pv 3))) (pw_or1 (pt_not (pt_chain op_le op_lt (pe_int) (pv 2) (pe_callB (klen K) (by rfl) T.z_len PySem.boot_len (pa_cons (pe_dget hr.hu (pv 1) (pe_str) (fun _ _ => rfl)) (pa_nil)))))))) (pss_one (ps_ret (pe_lstN (pa_cons (pe_str) (pa_cons (pv 2) (pa_nil)))))) (pss_nil))
      (pss_cons (ps_if (pt_cmpR op_gt (pv 0) (pe_int) (by first | exact nomark _ | rfl)) (pss_one (ps_ret (pe_lstN (pa_cons (pe_str) (pa_nil))))) (pss_nil))
      (pss_cons (ps_if (pt_cmpR op_notN (pe_ix (kixL K) (pe_dget hr.hu (pv 1) (pe_str) (fun _ _ => rfl)) (pv 2) (fun _ _ => rfl)) (pe_non) (by first | exact nomark _ | rfl)) (pss_one (ps_ret (pe_lstN (pa_cons (pe_str) (pa_cons (pv 2) (pa_cons (pe_ix (kixL K) (pe_dget hr.hu (pv 1) (pe_str) (fun _ _ => rfl)) (pv 2) (fun _ _ => rfl)) (pa_nil))))))) (pss_nil))
      (pss_cons (ps_if (PW.pt (pw_and (pt_cmpR op_eq (pv 0) (pe_int) (by first | exact nomark _ | rfl)) (pw_and1 (pt_cmpR op_eq (pv 2) (pe_int) (by first | exact nomark _ | rfl))))) (pss_one (ps_ret (pe_lstN (pa_cons (pe_str) (pa_nil))))) (pss_nil))
      (pss_cons (ps_if (PW.pt (pw_and (pt_cmpR op_eq (pv 0) (pe_int) (by first | exact nomark _ | rfl)) (pw_and1 (pt_cmpR op_gt (pe_callB (klen K) (by rfl) T.z_len PySem.boot_len (pa_cons (pe_dget hr.hu (pv 1) (pe_str) (fun _ _ => rfl)) (pa_nil))) (pe_int) (by first | exact nomark _ | rfl))))) (pss_one (ps_ret (pe_lstN (pa_cons (pe_str) (pa_cons (pe_int) (pa_nil)))))) (pss_nil))
      (pss_one (ps_ret (pe_lstN (pa_cons (pe_str) (pa_nil)))))))))), ?_⟩
    refine ⟨_, rfl, _, _, _, _, _, rfl, .ty _, ht, kit_ty hi, _, rfl, ?_⟩
    have fin : ∀ {l : Addr} {H' : Hp}, H l = none → l ≠ sysModules → H' = upd H l (.lst (dueV hs ts way v)) → Q (.ref l) H' := fun {l H'} hl nl e => by
      rw [e]; exact q l _ hl nl ((Kp.refl (S := [])).new hl) upd_same
    rcases tg.num with ⟨z, rfl⟩ | ⟨hnum, bad⟩
    · refine iteT ⟨_, rfl, _, _, _, _, _, rfl, .ty _, ht, kit_ty hb, _, rfl, ?_⟩
      refine ⟨_, rfl, _, rfl, iteF ?_⟩
      refine ⟨_, rfl, _, _, rfl, rfl, _, rfl, ?_⟩
      by_cases z0 : 0 ≤ z
      rotate_left
      · rw [decide_eq_false z0]
        have bad : BadN hs (V.int z) := fun n e => by unfold nint at e; injection e with e; omega
        exact iteF ⟨_, rfl, iteT ⟨_, rfl, (by show 2 ≤ sizeLine; decide), fun l hl nl => fin hl nl (by rw [due_bad bad])⟩⟩
      rw [decide_eq_true z0]
      refine iteT ⟨_, rfl, m, _, rfl, md.getH, mh, _, rfl, .inl (SqL.of md.lh), _, _, rfl, rfl, _, rfl, ?_⟩
      by_cases z1 : z < ((hs.map enc).length : Int)
      rotate_left
      · rw [decide_eq_false z1]
        rw [List.length_map] at z1
        have bad : BadN hs (V.int z) := fun n e => by unfold nint at e; injection e with e; omega
        exact iteT ⟨_, rfl, (by show 2 ≤ sizeLine; decide), fun l hl nl => fin hl nl (by rw [due_bad bad])⟩
      rw [decide_eq_true z1]
      rw [List.length_map] at z1
      obtain ⟨n, rfl⟩ : ∃ n : Nat, z = (n : Int) := ⟨z.toNat, by omega⟩
      have hn : n < hs.length := by omega
      have hnt : n < ts.length := by omega
      have dn := due_num (ts := ts) (way := way) hn
      have et := List.getElem?_eq_getElem hnt
      refine iteF ⟨_, rfl, _, _, rfl, rfl, _, rfl, ?_⟩
      by_cases c1 : 1 < way
      · rw [decide_eq_true c1]
        rw [if_pos c1] at dn
        exact iteT ⟨(by show 1 ≤ sizeLine; decide), fun l hl nl => fin hl nl (by show _ = upd H l (.lst (dueV hs ts way (nint n))); rw [dn])⟩
      rw [decide_eq_false c1]
      rw [if_neg c1, et] at dn
      refine iteF ⟨_, rfl, m, _, rfl, md.getT, _, rfl, mt, _, _, _, rfl, rfl, SqL.of md.lt, get_enc et, rfl, _, rfl, ?_⟩
      cases ex : ts[n] with
      | some i =>
        rw [ex] at dn et
        refine iteT ⟨_, rfl, _, rfl, m, _, rfl, md.getT, _, rfl, mt, _, _, _, rfl, rfl, SqL.of md.lt, get_enc et, (by show 3 ≤ sizeLine; decide), fun l hl nl => fin hl nl (by show _ = upd H l (.lst (dueV hs ts way (nint n))); rw [dn]; rfl)⟩
      | none =>
        rw [ex] at dn
        have dn2 : dueV hs ts way (nint n) = (if way = 1 ∧ (n : Int) = 0 then [.str "ground"] else if way = 0 ∧ 100 < hs.length then [.str "many", .int 101] else [.str "told"]) := dn
        refine iteF ⟨_, rfl, rfl, _, rfl, ?_⟩
        have hw1 : decide (V.int way = V.int 1) = decide (way = 1) := by rw [decide_eq_decide]; exact ⟨fun z => by injection z, fun z => by rw [z]⟩
        have hw0 : decide (V.int way = V.int 0) = decide (way = 0) := by rw [decide_eq_decide]; exact ⟨fun z => by injection z, fun z => by rw [z]⟩
        have hn0 : decide (V.int (n : Int) = V.int 0) = decide ((n : Int) = 0) := by rw [decide_eq_decide]; exact ⟨fun z => by injection z, fun z => by rw [z]⟩
        rw [hw1]
        refine and_if (d := decide ((n : Int) = 0)) (fun z => ⟨_, rfl, rfl, _, rfl, by rw [hn0]; exact z⟩) (fun a b => ?_) (fun ab => ?_)
        · have a := of_decide_eq_true a
          have b := of_decide_eq_true b
          rw [if_pos ⟨a, b⟩] at dn2
          exact ⟨(by show 1 ≤ sizeLine; decide), fun l hl nl => fin hl nl (by show _ = upd H l (.lst (dueV hs ts way (nint n))); rw [dn2])⟩
        have nab : ¬ (way = 1 ∧ (n : Int) = 0) := fun z => by rw [decide_eq_true z.1, decide_eq_true z.2] at ab; cases ab
        rw [if_neg nab] at dn2
        refine ⟨_, rfl, rfl, _, rfl, ?_⟩
        rw [hw0]
        refine and_if (d := decide ((100 : Int) < ((hs.map enc).length : Int))) (fun z => ⟨_, rfl, m, _, rfl, md.getH, mh, _, rfl, .inl (SqL.of md.lh), _, _, rfl, rfl, _, rfl, z⟩) (fun a b => ?_) (fun ab => ?_)
        · have a := of_decide_eq_true a
          have b := of_decide_eq_true b
          rw [List.length_map] at b
          rw [if_pos ⟨a, by omega⟩] at dn2
          exact ⟨(by show 2 ≤ sizeLine; decide), fun l hl nl => fin hl nl (by show _ = upd H l (.lst (dueV hs ts way (nint n))); rw [dn2])⟩
        have nab2 : ¬ (way = 0 ∧ 100 < hs.length) := fun z => by
          have b : (100 : Int) < ((hs.map enc).length : Int) := by rw [List.length_map]; omega
          rw [decide_eq_true z.1, decide_eq_true b] at ab; cases ab
        rw [if_neg nab2] at dn2
        exact ⟨(by show 1 ≤ sizeLine; decide), fun l hl nl => fin hl nl (by show _ = upd H l (.lst (dueV hs ts way (nint n))); rw [dn2])⟩
    · have fr : ∀ {l : Addr}, H l = none → l ≠ sysModules → Q (.ref l) (upd H l (.lst [.str "frame", v])) := fun {l} hl nl => fin hl nl (by rw [due_bad (bad hs)])
      refine iteB (fun h1 => ⟨_, rfl, _, _, _, _, _, rfl, .ty _, ht, kit_ty hb, _, rfl, ?_⟩) (fun h1 => ?_)
      · have e0 := isInt_num v h1
        rw [hnum] at e0
        rw [e0]
        exact ⟨_, rfl, _, rfl, iteT (iteT ⟨_, rfl, (by show 2 ≤ sizeLine; decide), fun l hl nl => fr hl nl⟩)⟩
      · exact ⟨_, rfl, _, rfl, iteT (iteT ⟨_, rfl, (by show 2 ≤ sizeLine; decide), fun l hl nl => fr hl nl⟩)⟩
end

end Lw
namespace Lw
open PySem PySem.Spec L2 FG
open PyProof.Rows hiding St
/-! ### the things that are handed in -/
theorem cut_mem {xs : List V} {lo hi : Option Int} {x : V} (h : x ∈ cutV xs lo hi) : x ∈ xs := by
  unfold cutV at h
  exact List.mem_of_mem_drop (List.mem_of_mem_take h)
theorem cut2 {xs : List V} : (cutV xs none (some 2)).length ≤ 2 := by
  unfold cutV; rw [List.length_take]
  simp only [List.length_drop, HT.sIx]
  first | omega | (split <;> omega) | (simp; omega)
theorem cut1 {xs : List V} : (cutV xs none (some 1)).length ≤ 1 := by
  unfold cutV; rw [List.length_take]
  simp only [List.length_drop, HT.sIx]
  first | omega | (split <;> omega) | (simp; omega)
def spThings : Sp := fun vs H Q _ => ∃ b m mh mt hs ts, ∃ n : Int, vs = [.ref b, .ref m] ∧ BoxAt H b n ∧ n < 100000 ∧ ModAt H m mh mt hs ts ∧ Wf hs ts ∧ b ∉ [m, mh, mt] ∧
  ∀ l H' xs, H l = none → Kp [b] H H' → BoxAt H' b (n + 3) → H' l = some (.lst xs) → xs.length ≤ 10 → (∀ v ∈ xs, ∃ d, Thg H' v d) → Q (.ref l) H'
theorem Thg.of {H H' : Hp} {v : V} {d : PyData} (t : Thg H v d) (k : ∀ a o, H a = some o → (∀ x y z, o ≠ .lst [.int x, .int y, .int z]) → H' a = some o) : Thg H' v d := by
  cases t with
  | non => exact .non
  | bl b => exact .bl b
  | int i h => exact .int i h
  | str z a b h => exact .str z a b h
  | lst e => exact .lst (k _ _ e fun _ _ _ z => by injection z with z; injection z with _ z; cases z)
  | tup e => exact .tup (k _ _ e fun _ _ _ z => by cases z)
  | emp e => exact .emp (k _ _ e fun _ _ _ z => by cases z)
/-- with a box aside -/
theorem Thg.kpb {H H' : Hp} {v : V} {d : PyData} {b : Addr} {n : Int} (t : Thg H v d) (k : Kp [b] H H') (bx : BoxAt H b n) : Thg H' v d := t.of fun a o e h => k a o e fun z => by
  rw [List.mem_singleton] at z
  obtain ⟨x, y, c, eb, _⟩ := bx
  rw [z, eb] at e
  exact h _ _ _ (Option.some.inj e).symm
section
variable {P : Program} {w : World} {K : PySem.W.Frag} {mg : Str → Option Value} {base : Heap}
theorem ok_things (T : Tx K mg) {fd : FuncData} (F : Fun K "_law_things" "_law_things" s__law_things (He.ga K "_law_things") fd) (c__law_take : Cal P w K mg base 1 "_law_take" spTake) : FnG P w K mg base 2 (He.ga K "_law_things") fd ["_law_box_here", "_law_model_here"] spThings := by
  refine FnG.of F sc__law_things (fun vs H Q E h => ?_) (fun cdv A outer s H vs Q E hr h => ?_)
  · obtain ⟨b, m, mh, mt, hs, ts, n, rfl, _⟩ := h; rfl
  · obtain ⟨b, m, mh, mt, hs, ts, n, rfl, bx, hn, md, wf, nb, q⟩ := h
    have wl := wf.len
    have ws := wf.small
    have e37 : (10 : Nat) ^ 37 = 10000000000000000000000000000000000000 := by decide
    refine ⟨_, pss_cons (ps_set (i := 2) sc__law_things.nd rfl (by first | exact Or.inl rfl | exact Or.inr rfl) (pe_callB (klen K) (by rfl) T.z_len PySem.boot_len (pa_cons (pe_dget hr.hu (pv 1) (pe_str) (fun _ _ => rfl)) (pa_nil))))
      (pss_cons (ps_set (i := 3) sc__law_things.nd rfl (by first | exact Or.inl rfl | exact Or.inr rfl) (pe_lst (pa_cons (pe_non) (pa_cons (pe_bl) (pa_cons (pe_bl) (pa_cons (pe_str) (pa_cons (pe_str) (pa_cons (pe_lst (pa_cons (pe_int) (pa_nil))) (pa_cons (pe_tup (pa_cons (pe_int) (pa_nil))) (pa_cons (pe_dnewK) (pa_cons (pe_un un_neg (pe_int)) (pa_cons (pv 2) (pa_cons (pe_op op_add (pv 2) (pe_int)) (pa_cons (pe_op op_pow (pe_int) (pe_int)) (pa_cons (pe_un un_neg (pv 2)) (pa_nil))))))))))))))))
      (pss_cons (ps_setLc (i := 4) (own := [("_law_k", 5)]) (g := gName 5) rfl sc__law_things.nd rfl rfl (sw_true rfl rfl rfl (by decide +kernel)) (pi_range1 rfl T.z_range (pa_cons (pv 2) (pa_nil))) (blkOk_by (own := [("_law_k", 5)]) (N := ["_law_box_here", "_law_model_here", "_law_many", "_law_some", "_law_gone", "_law_k", "_law_first"]) (sc := defScope s__law_things) (by decide +kernel)) (fun _ _ _ _ _ => pg_name (i := 5) sc__law_things.nd rfl (by first | exact Or.inl rfl | exact Or.inr rfl)) (fun _ _ _ _ _ => by exact pts_one (pt_cmpR op_notN (pe_ix (kixL K) (pe_dget hr.hu (pv 1) (pe_str) (fun _ _ => rfl)) (pv 5) (fun _ _ => rfl)) (pe_non) (by first | exact nomark _ | rfl))) (fun _ _ _ _ _ => by exact pv 5))
      (pss_cons (ps_set (i := 6) sc__law_things.nd rfl (by first | exact Or.inl rfl | exact Or.inr rfl) (gc c__law_take (hr.mono (by decide)) takes0 (pa_cons (pv 0) (pa_cons (pe_int) (pa_nil)))))
      (pss_one (ps_ret (pe_op op_cat (pe_op op_cat (pe_lst (pa_cons (pe_ix (kixL K) (pv 3) (pv 6) (fun _ _ => rfl)) (pa_cons (pe_ix (kixL K) (pv 3) (pe_op op_mod (pe_op op_add (pe_op op_add (pv 6) (pe_int)) (gc c__law_take (hr.mono (by decide)) takes0 (pa_cons (pv 0) (pa_cons (pe_int) (pa_nil))))) (pe_int)) (fun _ _ => rfl)) (pa_cons (pe_int) (pa_nil))))) (pe_slice (kslL K) (pe_slice (kslL K) (pv 4) (po_some (gc c__law_take (hr.mono (by decide)) takes0 (pa_cons (pv 0) (pa_cons (pv 2) (pa_nil))))) (po_none)) (po_none) (po_some (pe_int)))) (pe_slice (kslL K) (pv 4) (po_none) (po_some (pe_int))))))))), ?_⟩
    refine ⟨_, rfl, m, _, rfl, md.getH, mh, _, rfl, .inl (SqL.of md.lh), ?_⟩
    refine ⟨(by show 1 ≤ sizeLine; decide), fun a ha => ⟨(by show 1 ≤ sizeLine; decide), fun t ht => fun d hd => ?_⟩⟩
    have ka := (Kp.refl (S := []) (H := H)).new (o := .lst [.int 0]) ha
    have ea : upd H a (.lst [.int 0]) a = some (.lst [.int 0]) := upd_same
    generalize upd H a (.lst [.int 0]) = H1 at *
    have kt := (Kp.refl (S := []) (H := H1)).new (o := .tup [.int 0]) ht
    have et : upd H1 t (.tup [.int 0]) t = some (.tup [.int 0]) := upd_same
    generalize upd H1 t (.tup [.int 0]) = H2 at *
    have kd := (Kp.refl (S := []) (H := H2)).new (o := .dK []) hd
    have ed : upd H2 d (.dK []) d = some (.dK []) := upd_same
    generalize upd H2 d (.dK []) = H3 at *
    have ea3 := (kt.trans kd) _ _ ea (by simp)
    have et3 := kd _ _ et (by simp)
    refine ⟨_, rfl, _, rfl, _, rfl, _, _, rfl, rfl, _, _, rfl, rfl, ⟨by decide, by decide, by decide⟩, _, rfl, _, rfl, (by show 13 ≤ sizeLine; decide), fun l3 hl3 => ?_⟩
    have k3 := (Kp.refl (S := []) (H := H3)).new (o := .lst [V.non, .bl true, .bl false, .str "0", .str "", .ref a, .ref t, .ref d, .int (-1), .int ((hs.map enc).length : Int), .int (((hs.map enc).length : Int) + 1), .int (10 ^ Int.toNat 29), .int (-((hs.map enc).length : Int))]) hl3
    have e3 : upd H3 l3 (.lst [V.non, .bl true, .bl false, .str "0", .str "", .ref a, .ref t, .ref d, .int (-1), .int ((hs.map enc).length : Int), .int (((hs.map enc).length : Int) + 1), .int (10 ^ Int.toNat 29), .int (-((hs.map enc).length : Int))]) l3 = some (.lst [V.non, .bl true, .bl false, .str "0", .str "", .ref a, .ref t, .ref d, .int (-1), .int ((hs.map enc).length : Int), .int (((hs.map enc).length : Int) + 1), .int (10 ^ Int.toNat 29), .int (-((hs.map enc).length : Int))]) := upd_same
    generalize upd H3 l3 (.lst [V.non, .bl true, .bl false, .str "0", .str "", .ref a, .ref t, .ref d, .int (-1), .int ((hs.map enc).length : Int), .int (((hs.map enc).length : Int) + 1), .int (10 ^ Int.toNat 29), .int (-((hs.map enc).length : Int))]) = H4 at *
    obtain ⟨S, hS⟩ : ∃ S : List V, S = [V.non, .bl true, .bl false, .str "0", .str "", .ref a, .ref t, .ref d, .int (-1), .int ((hs.map enc).length : Int), .int (((hs.map enc).length : Int) + 1), .int (10 ^ Int.toNat 29), .int (-((hs.map enc).length : Int))] := ⟨_, rfl⟩
    rw [← hS] at e3
    have lS : S.length = 13 := by rw [hS]; rfl
    have thS : ∀ v ∈ S, ∃ d, Thg H3 v d := fun v hv => by
      rw [hS] at hv
      simp only [List.mem_cons, List.not_mem_nil, or_false] at hv
      have e29 : (10 : Int) ^ Int.toNat 29 = 100000000000000000000000000000 := by decide
      rcases hv with rfl | rfl | rfl | rfl | rfl | rfl | rfl | rfl | rfl | rfl | rfl | rfl | rfl
      · exact ⟨_, .non⟩
      · exact ⟨_, .bl _⟩
      · exact ⟨_, .bl _⟩
      · exact ⟨_, .str _ (by decide +kernel) (by decide +kernel) (by decide +kernel)⟩
      · exact ⟨_, .str _ (by decide +kernel) (by decide +kernel) (by decide +kernel)⟩
      · exact ⟨_, .lst ea3⟩
      · exact ⟨_, .tup et3⟩
      · exact ⟨_, .emp ed⟩
      · exact ⟨_, .int _ (by rw [e37]; decide)⟩
      · exact ⟨_, .int _ (by rw [e37, List.length_map]; omega)⟩
      · exact ⟨_, .int _ (by rw [e37, List.length_map]; omega)⟩
      · exact ⟨_, .int _ (by rw [e37, e29]; decide)⟩
      · exact ⟨_, .int _ (by rw [e37, List.length_map]; omega)⟩
    clear hS
    have K4 := ((ka.trans kt).trans kd).trans k3
    have thS4 : ∀ v ∈ S, ∃ d, Thg H4 v d := fun v hv => let ⟨d, t⟩ := thS v hv; ⟨d, t.kp k3⟩
    have md4 := md.kp0 K4
    have bx4 := bx.kp K4 (by simp)
    have lh : (hs.map enc).length = hs.length := List.length_map _
    refine ⟨_, rfl, _, rfl, by omega, by omega, fun D hD => ?_⟩
    refine lc_range (lo := 0) (n := _) (fun i H' => Kp [] H4 H' ∧ ∃ gs : List Nat, H' D = some (.lst (gs.map nint)) ∧ gs.length ≤ i ∧ ∀ g ∈ gs, g < 200) ⟨(Kp.refl (S := [])).new hD, [], upd_same, Nat.le_refl _, fun g hg => by cases hg⟩ ?_ ?_
    · rintro i H5 hi ⟨k5, gs, eD, gl, gm⟩
      have hi2 : i < ts.length := by rw [Int.toNat_natCast] at hi; omega
      have md5 := md4.kp0 k5
      refine ⟨rfl, _, rfl, m, _, rfl, md5.getT, _, rfl, mt, _, _, enc ts[i], rfl, rfl, SqL.of md5.lt, ?_, rfl, _, rfl, ?_⟩
      · rw [Int.zero_add]; exact get_enc (List.getElem?_eq_getElem hi2)
      cases ex : ts[i] with
      | none => exact iteF ⟨k5, gs, eD, by omega, gm⟩
      | some o =>
        refine iteT ⟨_, rfl, _, eD, ?_, fun b' o' eb hb => (upd_ne (ne_of_none eb hD)).trans (k5 b' o' eb hb), gs ++ [i], ?_, by rw [List.length_append]; simp; omega, fun g hg => ?_⟩
        · rw [List.length_map]; exact Nat.lt_of_le_of_lt (m := 200) (by omega) (by decide)
        · rw [upd_same, List.map_append, Int.zero_add]; rfl
        · rcases List.mem_append.mp hg with z | z
          · exact gm g z
          · rw [List.mem_singleton] at z; omega
    · rintro H5 ⟨k5, gs, eD, gl, gm⟩
      rw [Int.toNat_natCast, lh] at gl
      have bx5 := bx4.kp k5 (by simp)
      have e35 := k5 _ _ e3 (by simp)
      have thg : ∀ g ∈ gs, ∀ {H' : Hp}, ∃ d, Thg H' (nint g) d := fun g hg {H'} => ⟨_, .int _ (by have := gm g hg; rw [e37]; omega)⟩
      have nl3 : l3 ≠ b := bx.kp ((ka.trans kt).trans kd) (by simp) |>.ne hl3
      have nD : D ≠ b := bx4.ne hD
      refine ⟨_, rfl, b, n, 13, rfl, bx5, by omega, by decide, by decide, fun H6 d6 k6 bx6 d60 d61 => ?_⟩
      obtain ⟨u, hu, au⟩ := pickV (xs := S) (z := d6) d60 (by rw [lS]; exact d61)
      have e36 := (k6 l3 nl3).trans e35
      refine ⟨_, rfl, _, rfl, l3, _, _, u, rfl, rfl, SqL.of e36, au, ?_⟩
      refine ⟨_, rfl, _, rfl, _, _, rfl, rfl, _, rfl, b, n + 1, 12, rfl, bx6, by omega, by decide, by decide, fun H7 d7 k7 bx7 d70 d71 => ⟨_, _, rfl, rfl, _, _, rfl, rfl, (by decide : (0 : Int) < 13), ?_⟩⟩
      obtain ⟨u2, hu2, au2⟩ := pickV (xs := S) (z := (d6 + 1 + d7) % 13) (Int.emod_nonneg _ (by decide)) (by rw [lS]; exact Int.emod_lt_of_pos _ (by decide))
      have e37' := (k7 l3 nl3).trans e36
      refine ⟨l3, _, _, u2, rfl, rfl, SqL.of e37', au2, (by show 3 ≤ sizeLine; decide), fun l8 hl8 => ?_⟩
      have k8 := (Kp.refl (S := []) (H := H7)).new (o := .lst [u, u2, .int 0]) hl8
      have e8 : upd H7 l8 (.lst [u, u2, .int 0]) l8 = some (.lst [u, u2, .int 0]) := upd_same
      have bx8 := bx7.new (o := .lst [u, u2, .int 0]) hl8
      have nl8 := bx7.ne hl8
      generalize upd H7 l8 (.lst [u, u2, .int 0]) = H8 at *
      have eD8 : H8 D = some (.lst (gs.map nint)) := k8 _ _ ((k7 D nD).trans ((k6 D nD).trans eD)) (by simp)
      refine ⟨_, rfl, _, rfl, _, rfl, b, n + 1 + 1, ((hs.map enc).length : Int), rfl, bx8, by omega, (by have := wf.pos; omega), (Int.lt_of_le_of_lt (by omega : ((hs.map enc).length : Int) ≤ 200) (by decide)), fun H9 d9 k9 bx9 d90 d91 => ?_⟩
      have eD9 := (k9 D nD).trans eD8
      have e89 := (k9 l8 nl8).trans e8
      refine ⟨d9, rfl, D, _, rfl, SqL.of eD9, fun p1 hp1 => ⟨2, rfl, p1, _, rfl, SqL.of upd_same, fun p2 hp2 => ?_⟩⟩
      have kp1 := (Kp.refl (S := []) (H := H9)).new (o := .lst (cutV (gs.map nint) (some d9) none)) hp1
      have b1 := bx9.new (o := .lst (cutV (gs.map nint) (some d9) none)) hp1
      generalize upd H9 p1 (.lst (cutV (gs.map nint) (some d9) none)) = HA at *
      have kp2 := (Kp.refl (S := []) (H := HA)).new (o := .lst (cutV (cutV (gs.map nint) (some d9) none) none (some 2))) hp2
      have b2 := b1.new (o := .lst (cutV (cutV (gs.map nint) (some d9) none) none (some 2))) hp2
      have e2 : upd HA p2 (.lst (cutV (cutV (gs.map nint) (some d9) none) none (some 2))) p2 = some (.lst (cutV (cutV (gs.map nint) (some d9) none) none (some 2))) := upd_same
      generalize upd HA p2 (.lst (cutV (cutV (gs.map nint) (some d9) none) none (some 2))) = HB at *
      have c2 := cut2 (xs := cutV (gs.map nint) (some d9) none)
      refine ⟨l8, p2, _, _, rfl, rfl, (kp1.trans kp2) _ _ e89 (by simp), e2, (by rw [List.length_cons, List.length_cons, List.length_cons]; exact Nat.le_trans (by show 3 + _ ≤ 5; omega) (by decide : 5 ≤ sizeLine)), fun p3 hp3 => ?_⟩
      have kp3 := (Kp.refl (S := []) (H := HB)).new (o := .lst ([u, u2, .int 0] ++ cutV (cutV (gs.map nint) (some d9) none) none (some 2))) hp3
      have b3 := b2.new (o := .lst ([u, u2, .int 0] ++ cutV (cutV (gs.map nint) (some d9) none) none (some 2))) hp3
      have e3' : upd HB p3 (.lst ([u, u2, .int 0] ++ cutV (cutV (gs.map nint) (some d9) none) none (some 2))) p3 = some (.lst ([u, u2, .int 0] ++ cutV (cutV (gs.map nint) (some d9) none) none (some 2))) := upd_same
      generalize upd HB p3 (.lst ([u, u2, .int 0] ++ cutV (cutV (gs.map nint) (some d9) none) none (some 2))) = HC at *
      have kC := (kp1.trans kp2).trans kp3
      refine ⟨_, rfl, 1, rfl, D, _, rfl, SqL.of (kC _ _ eD9 (by simp)), fun p4 hp4 => ?_⟩
      have kp4 := (Kp.refl (S := []) (H := HC)).new (o := .lst (cutV (gs.map nint) none (some 1))) hp4
      have b4 := b3.new (o := .lst (cutV (gs.map nint) none (some 1))) hp4
      have e4 : upd HC p4 (.lst (cutV (gs.map nint) none (some 1))) p4 = some (.lst (cutV (gs.map nint) none (some 1))) := upd_same
      generalize upd HC p4 (.lst (cutV (gs.map nint) none (some 1))) = HF at *
      have c1 := cut1 (xs := gs.map nint)
      refine ⟨p3, p4, _, _, rfl, rfl, kp4 _ _ e3' (by simp), e4, ?_, fun p5 hp5 => ?_⟩
      · rw [List.length_append]; exact Nat.le_trans (by show (3 + _) + _ ≤ 6; omega) (by decide : 6 ≤ sizeLine)
      have kp5 := (Kp.refl (S := []) (H := HF)).new (o := .lst (([u, u2, .int 0] ++ cutV (cutV (gs.map nint) (some d9) none) none (some 2)) ++ cutV (gs.map nint) none (some 1))) hp5
      have b5 := b4.new (o := .lst (([u, u2, .int 0] ++ cutV (cutV (gs.map nint) (some d9) none) none (some 2)) ++ cutV (gs.map nint) none (some 1))) hp5
      have KbF : Kp [b] H9 HF := (kC.trans kp4).mono (by simp)
      have Kb : Kp [b] H HF := ((((K4.trans k5).mono (by simp)).trans k6.kp).trans (k7.kp.trans (k8.mono (by simp)))).trans (k9.kp.trans KbF)
      have hp5H : H p5 = none := by
        cases e : H p5 with
        | none => rfl
        | some o =>
          by_cases z : p5 = b
          · obtain ⟨_, _, _, eb, _⟩ := b4; rw [z, eb] at hp5; cases hp5
          · rw [Kb p5 o e (by simpa using z)] at hp5; cases hp5
      refine q p5 _ _ hp5H (Kb.trans (kp5.mono (by simp))) (b5.more (by omega)) upd_same ?_ fun v hv => ?_
      · simp only [List.length_append, List.length_cons, List.length_nil]; omega
      have up : ∀ {v : V} {d : PyData}, Thg H4 v d → Thg (upd HF p5 (.lst (([u, u2, .int 0] ++ cutV (cutV (gs.map nint) (some d9) none) none (some 2)) ++ cutV (gs.map nint) none (some 1)))) v d := fun t =>
        (((((t.kp k5).kpb k6.kp bx5).kpb k7.kp bx6).kp k8).kpb k9.kp bx8).kp ((kC.trans kp4).trans kp5)
      have num : ∀ v ∈ gs.map nint, ∀ {H' : Hp}, ∃ d, Thg H' v d := fun v hv => by
        obtain ⟨g, hg, rfl⟩ := List.mem_map.mp hv
        exact thg g hg
      rcases List.mem_append.mp hv with hv | hv
      · rcases List.mem_append.mp hv with hv | hv
        · simp only [List.mem_cons, List.not_mem_nil, or_false] at hv
          rcases hv with rfl | rfl | rfl
          · obtain ⟨d, t⟩ := thS4 _ hu; exact ⟨d, up t⟩
          · obtain ⟨d, t⟩ := thS4 _ hu2; exact ⟨d, up t⟩
          · exact ⟨_, .int 0 (by decide)⟩
        · exact num v (cut_mem (cut_mem hv))
      · exact num v (cut_mem hv)
end

end Lw
namespace Lw
open PySem PySem.Spec L2 FG
open PyProof.Rows hiding St
/-! ### deeds, by both -/
section
variable {C : Addr} {H H4 H5 : Hp} {p h t m mh mt : Addr} {hs ts : List (Option Int)} {f : Nat}
theorem Pr.seps (pr : Pr C H p h t m mh mt hs ts) : (h ≠ t ∧ h ≠ mh ∧ h ≠ mt) ∧ (t ≠ mh ∧ t ≠ mt) ∧ mh ≠ mt := by
  have sep := pr.sep
  simp only [List.nodup_cons, List.mem_cons, List.not_mem_nil, or_false, not_or, List.nodup_nil, and_true, not_false_eq_true] at sep
  exact sep
theorem Pr.md4 (pr : Pr C H p h t m mh mt hs ts) (k : Kp [h, t] H H4) : ModAt H4 m mh mt hs ts := by
  obtain ⟨⟨s1, s2, s3⟩, ⟨s4, s5⟩, s6⟩ := pr.seps
  exact pr.m.kp k (by simpa using ⟨Ne.symm (ne_of pr.f.lh pr.m.d (by intro c; cases c)), Ne.symm (ne_of pr.f.lt pr.m.d (by intro c; cases c))⟩) (by simpa using ⟨s2.symm, s4.symm⟩) (by simpa using ⟨s3.symm, s5.symm⟩)
theorem Pr.fin2 (pr : Pr C H p h t m mh mt hs ts) (hf0 : 0 < f) (hfl : f < ts.length) (k4 : Kp [t] H H4) (fr4 : FrAt C H4 p h t hs (taken ts (fin hs ts f) f)) (k5 : Kp [mt] H4 H5) (md5 : ModAt H5 m mh mt hs (taken ts (fin hs ts f) f)) :
    Pr C H5 p h t m mh mt hs (taken ts (fin hs ts f) f) ∧ Kp [h, t, mh, mt] H H5 := by
  obtain ⟨⟨s1, s2, s3⟩, ⟨s4, s5⟩, s6⟩ := pr.seps
  obtain ⟨dx, fs, ep, ff⟩ := pr.f.ob
  have wf := pr.f.wf
  have wl := wf.len
  have ws := wf.small
  have fr5 := fr4.kp (S := [mt]) k5 (by simpa using ne_of ep pr.m.lt (by intro c; cases c)) (by simpa using s3) (by simpa using s5)
  exact ⟨⟨fr5, md5, ground_stays wf pr.g hf0, pr.tk.taken (by omega) _, pr.sep⟩, (k4.mono (by simp)).trans (k5.mono (by simp))⟩
theorem Pr.beg2 (pr : Pr C H p h t m mh mt hs ts) (k4 : Kp [h, t] H H4) (fr4 : FrAt C H4 p h t (hs ++ [some (f : Int)]) (ts ++ [none])) (k5 : Kp [mh, mt] H4 H5) (md5 : ModAt H5 m mh mt (hs ++ [some (f : Int)]) (ts ++ [none])) :
    Pr C H5 p h t m mh mt (hs ++ [some (f : Int)]) (ts ++ [none]) ∧ Kp [h, t, mh, mt] H H5 := by
  obtain ⟨⟨s1, s2, s3⟩, ⟨s4, s5⟩, s6⟩ := pr.seps
  obtain ⟨dx, fs, ep, ff⟩ := pr.f.ob
  have wf := pr.f.wf
  have wl := wf.len
  have fr5 := fr4.kp (S := [mh, mt]) k5 (by simpa using ⟨ne_of ep pr.m.lh (by intro c; cases c), ne_of ep pr.m.lt (by intro c; cases c)⟩) (by simpa using ⟨s2, s3⟩) (by simpa using ⟨s4, s5⟩)
  refine ⟨⟨fr5, md5, ?_, pr.tk.more, pr.sep⟩, (k4.mono (by simp)).trans (k5.mono (by simp))⟩
  rw [List.getElem?_append_left (by have := wf.pos; omega)]; exact pr.g
end
def spDeeds (K : PySem.W.Frag) : Sp := fun vs H Q _ => ∃ b p h t m mh mt hs ts, ∃ n many : Int, vs = [.ref b, .ref p, .ref m, .int many] ∧ Pr (CF K) H p h t m mh mt hs ts ∧ BoxAt H b n ∧ n < 100000 ∧ many ≤ 40 ∧ 0 ≤ many ∧ b ∉ [p, h, t, m, mh, mt] ∧
  ∀ H' hs' ts', Kp [b, h, t, mh, mt] H H' → Pr (CF K) H' p h t m mh mt hs' ts' → BoxAt H' b (n + 200) → Q .non H'
def spFilled (K : PySem.W.Frag) : Sp := fun vs H Q _ => ∃ p h t m mh mt hs ts, vs = [.ref p, .ref m] ∧ Pr (CF K) H p h t m mh mt hs ts ∧ ∀ H' hs' ts', Kp [h, t, mh, mt] H H' → Pr (CF K) H' p h t m mh mt hs' ts' → Q .non H'
section
variable {P : Program} {w : World} {K : PySem.W.Frag} {mg : Str → Option Value} {base : Heap}
theorem ok_deeds (T : Tx K mg) {fd : FuncData} (F : Fun K "_law_deeds" "_law_deeds" s__law_deeds (He.ga K "_law_deeds") fd) (c__law_take : Cal P w K mg base 1 "_law_take" spTake) (c__law_one : Cal P w K mg base 2 "_law_one" spOne)
    (c__law_standing : Cal P w K mg base 1 "_law_standing" spLStanding) (c__law_finish : Cal P w K mg base 2 "_law_finish" spLFin) (c__law_begin : Cal P w K mg base 1 "_law_begin" spLBegin)
    (m_finish : Met P w K mg base 5 (CF K) "finish" (orS (spFin (CF K)) (spFinX K))) (m_begin : Met P w K mg base 5 (CF K) "begin" (orS (spBegin (CF K)) (spBeginX K))) : FnG P w K mg base 6 (He.ga K "_law_deeds") fd ["_law_box_here", "_law_frames", "_law_model_here", "_law_many"] (spDeeds K) := by
  refine FnG.of F sc__law_deeds (fun vs H Q E h => ?_) (fun cdv A outer s H vs Q E hr h => ?_)
  · obtain ⟨b, p, h, t, m, mh, mt, hs, ts, n, many, rfl, _⟩ := h; rfl
  · obtain ⟨b, p, h, t, m, mh, mt, hs0, ts0, n, many, rfl, pr0, hb, hn, hm, hm0, nb, q⟩ := h
    refine ⟨_, pss_one (ps_for (passes_of rfl) rfl (pi_range1 rfl T.z_range (pa_cons (pv 3) (pa_nil))) (pg_name (i := 4) sc__law_deeds.nd rfl (by first | exact Or.inl rfl | exact Or.inr rfl))
        (pss_cons (ps_set (i := 5) sc__law_deeds.nd rfl (by first | exact Or.inl rfl | exact Or.inr rfl) (pe_cmpR op_eq (gc c__law_take (hr.mono (by decide)) takes0 (pa_cons (pv 0) (pa_cons (pe_int) (pa_nil)))) (pe_int) (by first | exact nomark _ | rfl)))
      (pss_cons (ps_set (i := 6) sc__law_deeds.nd rfl (by first | exact Or.inl rfl | exact Or.inr rfl) (gc c__law_one (hr.mono (by decide)) takes0 (pa_cons (pv 0) (pa_cons (gc c__law_standing (hr.mono (by decide)) takes0 (pa_cons (pv 2) (pa_nil))) (pa_nil)))))
      (pss_one (ps_if (PW.pt (pw_and (pt_val (pv 5)) (pw_and1 (pt_cmpR op_gt (pv 6) (pe_int) (by first | exact nomark _ | rfl))))) (pss_cons (ps_expr (gm m_finish (hr.mono (by decide)) takes0 (pv 1) (pa_cons (pv 6) (pa_nil))))
      (pss_one (ps_expr (gc c__law_finish (hr.mono (by decide)) takes0 (pa_cons (pv 2) (pa_cons (pv 6) (pa_nil))))))) (pss_one (ps_if (pt_cmpR op_le (pe_callB (klen K) (by rfl) T.z_len PySem.boot_len (pa_cons (pe_dget hr.hu (pv 2) (pe_str) (fun _ _ => rfl)) (pa_nil))) (pe_int) (by first | exact nomark _ | rfl)) (pss_cons (ps_expr (gm m_begin (hr.mono (by decide)) takes0 (pv 1) (pa_cons (pv 6) (pa_nil))))
      (pss_one (ps_expr (gc c__law_begin (hr.mono (by decide)) takes0 (pa_cons (pv 2) (pa_cons (pv 6) (pa_nil))))))) (pss_nil)))))))), ?_⟩
    refine ⟨_, rfl, _, rfl, by omega, by omega, for_range (lo := 0) (n := _) (fun i σ H' => ∃ hs ts v4 v5 v6, σ = [some (.ref b), some (.ref p), some (.ref m), some (.int many), v4, v5, v6] ∧ Kp [b, h, t, mh, mt] H H' ∧ Pr (CF K) H' p h t m mh mt hs ts ∧ BoxAt H' b (n + 4 * (i : Int))) ⟨hs0, ts0, none, none, none, rfl, Kp.refl, pr0, hb.more (by omega)⟩ ?_ ?_⟩
    · rintro i σ H1 hi ⟨hs, ts, v4, v5, v6, rfl, K1, pr, b1⟩
      have wf := pr.f.wf
      have wl := wf.len
      have ws := wf.small
      have nb' := nb
      simp only [List.mem_cons, List.not_mem_nil, or_false, not_or] at nb'
      obtain ⟨n1, n2, n3, n4, n5, n6⟩ := nb'
      refine ⟨_, rfl, b, _, 4, rfl, b1, by omega, by decide, by decide, fun H2 e k2 b2 e0 e1 => ⟨rfl, ?_⟩⟩
      have pr2 := pr.kp k2.kp (by simpa using nb)
      refine ⟨_, rfl, _, rfl, m, mh, mt, hs, ts, rfl, pr2.m, by omega, fun l H3 hl3 k3 eL3 => ?_⟩
      have b3 := b2.kp k3 (by simp)
      have pr3 := pr2.kp0 k3
      have nbl : b ≠ l := (b2.ne hl3).symm
      have ne0 : stand ts ≠ [] := fun c => by have := mem_stand.mpr pr.g; rw [c] at this; cases this
      refine ⟨b, l, _, stand ts, rfl, b3, by omega, eL3, nbl, ne0, Nat.le_trans (stand_len ts) (by omega), fun H4 f hf k4 b4 => ?_⟩
      have hft := mem_stand.mp hf
      have hfl : f < ts.length := stand_lt hf
      have pr4 := pr3.kp k4 (by simpa using nb)
      have kA : Kp [b] H1 H4 := (k2.kp.trans (k3.mono (by simp))).trans k4
      have kA' : Kp [b, h, t, mh, mt] H H4 := K1.trans (kA.mono (by simp))
      obtain ⟨dx, fs, ep, ff⟩ := pr4.f.ob
      have fin : ∀ {H' hs' ts'}, Pr (CF K) H' p h t m mh mt hs' ts' → Kp [h, t, mh, mt] H4 H' → ∃ hs ts v4' v5' v6', [some (V.ref b), some (V.ref p), some (V.ref m), some (V.int many), some (V.int (0 + (i : Int))), some (V.bl (decide (V.int e = V.int 0))), some (nint f)] = [some (V.ref b), some (V.ref p), some (V.ref m), some (V.int many), v4', v5', v6'] ∧ Kp [b, h, t, mh, mt] H H' ∧ Pr (CF K) H' p h t m mh mt hs ts ∧ BoxAt H' b (n + 4 * ((i + 1 : Nat) : Int)) := fun {H' hs' ts'} pr' k' =>
        ⟨hs', ts', _, _, _, rfl, kA'.trans (k'.mono (by simp)), pr', (b4.kp k' (by simp [n2, n3, n5, n6])).more (by omega)⟩
      refine ⟨_, rfl, _, rfl, ?_⟩
      refine and_if (d := decide ((0 : Int) < (f : Int))) (fun z => ⟨_, rfl, _, _, rfl, rfl, _, rfl, z⟩) (fun hc hd => ?_) (fun hcd => ?_)
      · have hf0 : 0 < f := by have := of_decide_eq_true hd; omega
        refine ⟨_, rfl, p, dx, fs, rfl, ep, ff.no _ (by decide +kernel), _, rfl, .inl ⟨p, h, t, hs, ts, f, rfl, pr4.f, hft, hf0, fun l5 H5 hl5 k5 fr5 eL5 => ?_⟩⟩
        refine ⟨_, rfl, _, rfl, m, mh, mt, hs, ts, f, rfl, pr4.md4 (k5.mono (by simp)), wf, fun l6 H6 hl6 k6 md6 eL6 => ?_⟩
        obtain ⟨pr6, k46⟩ := pr4.fin2 hf0 hfl k5 fr5 k6 md6
        exact fin pr6 k46
      · refine ⟨_, rfl, m, _, rfl, pr4.m.getH, mh, _, rfl, .inl (SqL.of pr4.m.lh), _, _, rfl, rfl, _, rfl, ?_⟩
        refine ite2 (fun h100 => ?_) (fun h100 => ?_)
        · have h100' : hs.length ≤ 100 := by
            have z : (((hs.map enc).length : Int) ≤ 100) := by simpa using h100
            rw [List.length_map] at z; omega
          refine ⟨_, rfl, p, dx, fs, rfl, ep, ff.no _ (by decide +kernel), _, rfl, .inl ⟨p, h, t, hs, ts, f, rfl, pr4.f, hft, h100', fun H5 k5 fr5 => ?_⟩⟩
          refine ⟨_, rfl, _, rfl, m, mh, mt, hs, ts, f, rfl, pr4.md4 k5, by omega, by omega, fun H6 k6 md6 => ?_⟩
          obtain ⟨pr6, k46⟩ := pr4.beg2 k5 fr5 k6 md6
          exact fin pr6 k46
        · exact fin pr4 Kp.refl
    · rintro σ H1 ⟨hs, ts, v4, v5, v6, rfl, K1, pr, b1⟩
      exact q H1 hs ts K1 pr (b1.more (by omega))
theorem ok_filled (T : Tx K mg) {fd : FuncData} (F : Fun K "_law_filled" "_law_filled" s__law_filled (He.ga K "_law_filled") fd) (c__law_begin : Cal P w K mg base 1 "_law_begin" spLBegin) (m_begin : Met P w K mg base 5 (CF K) "begin" (orS (spBegin (CF K)) (spBeginX K))) :
    FnG P w K mg base 6 (He.ga K "_law_filled") fd ["_law_frames", "_law_model_here"] (spFilled K) := by
  refine FnG.of F sc__law_filled (fun vs H Q E h => ?_) (fun cdv A outer s H vs Q E hr h => ?_)
  · obtain ⟨p, h, t, m, mh, mt, hs, ts, rfl, _⟩ := h; rfl
  · obtain ⟨p, h, t, m, mh, mt, hs0, ts0, rfl, pr0, q⟩ := h
    refine ⟨_, pss_one (ps_while (passes_of rfl) (pt_cmpR op_le (pe_callB (klen K) (by rfl) T.z_len PySem.boot_len (pa_cons (pe_dget hr.hu (pv 1) (pe_str) (fun _ _ => rfl)) (pa_nil))) (pe_int) (by first | exact nomark _ | rfl)) (pss_cons (ps_expr (gm m_begin (hr.mono (by decide)) takes0 (pv 0) (pa_cons (pe_int) (pa_nil))))
      (pss_one (ps_expr (gc c__law_begin (hr.mono (by decide)) takes0 (pa_cons (pv 1) (pa_cons (pe_int) (pa_nil)))))))), ?_⟩
    refine ⟨fun x σ H' => ∃ hs ts, σ = [some (.ref p), some (.ref m)] ∧ Kp [h, t, mh, mt] H H' ∧ Pr (CF K) H' p h t m mh mt hs ts ∧ x = 200 - hs.length, ⟨_, hs0, ts0, rfl, Kp.refl, pr0, rfl⟩, ?_⟩
    rintro x σ H1 ⟨hs, ts, rfl, K1, pr, rfl⟩
    have wf := pr.f.wf
    have wl := wf.len
    have ws := wf.small
    obtain ⟨dx, fs, ep, ff⟩ := pr.f.ob
    refine ⟨_, rfl, m, _, rfl, pr.m.getH, mh, _, rfl, .inl (SqL.of pr.m.lh), _, _, rfl, rfl, _, rfl, ?_⟩
    refine ite2 (fun h100 => ?_) (fun h100 => ?_)
    · have h100' : hs.length ≤ 100 := by
        have z : (((hs.map enc).length : Int) ≤ 100) := by simpa using h100
        rw [List.length_map] at z; omega
      refine ⟨fun σ' H'' => ∃ m', m' < 200 - hs.length ∧ _, fun σ' H'' z => z, ?_⟩
      refine ⟨_, rfl, p, dx, fs, rfl, ep, ff.no _ (by decide +kernel), .inl ⟨p, h, t, hs, ts, 0, rfl, pr.f, pr.g, h100', fun H5 k5 fr5 => ?_⟩⟩
      refine ⟨_, rfl, m, mh, mt, hs, ts, 0, rfl, pr.md4 k5, by omega, by omega, fun H6 k6 md6 => ?_⟩
      obtain ⟨pr6, k46⟩ := pr.beg2 k5 fr5 k6 md6
      exact ⟨200 - (hs ++ [some ((0 : Nat) : Int)]).length, by rw [List.length_append]; simp; omega, _, _, rfl, K1.trans k46, pr6, rfl⟩
    · exact q H1 hs ts K1 pr
end

end Lw
namespace Lw
open PySem PySem.Spec L2 FG
open PyProof.Rows hiding St
/-! ### texts of nested data fit -/
theorem shw_listN {K : PySem.W.Frag} {H : Hp} {a : Addr} {xs : List V} {ds : List PyData} (e : H a = some (.lst xs)) (h : DpAll K H xs ds) (ok : okDs ds = true) (hb : PyData.bulkAll ds ≤ 300000) (hd : PyData.depthAll ds ≤ 50) : Shw K H (.ref a) (.list ds) :=
  shw_at (.lst (SqL.of e) h) (by simp only [okD]; exact ok) (by simp only [PyData.bulk]; exact hb) (by simp only [PyData.depth]; omega)
structure OkT (d : PyData) (N M : Nat) : Prop where
  ok : okD d = true
  b : d.bulk ≤ N
  h : d.depth ≤ M
theorem OkT.lst1 {z : Str} {d : PyData} {N M : Nat} (y : OkT d N M) (hz : okD (.str z) = true) (hs : (PyData.str z).bulk ≤ 100) : OkT (.list [.str z, d]) (N + 102) (M + 1) := by
  refine ⟨by simp only [okD, okDs] at hz ⊢; simp only [hz, y.ok, Bool.and_self], ?_, ?_⟩
  · have := y.b
    rw [PyData.bulk]
    simp only [PyData.bulkAll]; omega
  · have := y.h
    rw [PyData.depth]
    simp only [PyData.depthAll, PyData.depth]; omega
theorem OkT.lstN {ds : List PyData} {N M : Nat} (ok : okDs ds = true) (b : PyData.bulkAll ds ≤ N) (h : PyData.depthAll ds ≤ M) : OkT (.list ds) N (M + 1) :=
  ⟨by simp only [okD]; exact ok, by rw [PyData.bulk]; exact b, by rw [PyData.depth]; omega⟩
theorem all_ok {N M : Nat} : ∀ {ds : List PyData}, (∀ d ∈ ds, OkT d N M) → okDs ds = true ∧ PyData.bulkAll ds ≤ (N + 1) * ds.length ∧ PyData.depthAll ds ≤ M
  | [], _ => ⟨by simp only [okDs], by simp only [PyData.bulkAll]; omega, by simp only [PyData.depthAll]; omega⟩
  | d :: ds, h => by
    obtain ⟨a, b, c⟩ := h d (by simp)
    obtain ⟨x, y, z⟩ := all_ok (ds := ds) fun u hu => h u (by simp [hu])
    refine ⟨by simp only [okDs, a, x, Bool.and_self], ?_, ?_⟩
    · simp only [PyData.bulkAll, List.length_cons, Nat.mul_add]; omega
    · simp only [PyData.depthAll]; omega
theorem DpAll.snoc {K : PySem.W.Frag} {H : Hp} {v : V} {d : PyData} (y : Dp K H v d) : ∀ {vs : List V} {ds : List PyData}, DpAll K H vs ds → DpAll K H (vs ++ [v]) (ds ++ [d])
  | _, _, .nil => .cons y .nil
  | _, _, .cons a b => .cons a (DpAll.snoc y b)

end Lw
namespace Lw
open PySem PySem.Spec L2 FG
open PyProof.Rows hiding St
/-! ### the whole state as a text, good deeds behind -/
theorem tok_hs {hs ts : List (Option Int)} (w : Wf hs ts) {n : Nat} {i : Int} (h : hs[n]? = some (some i)) : i.natAbs < 1000 := by
  have ws := w.small
  by_cases h0 : n = 0
  · subst h0; rw [w.root] at h; cases h
  · have hl := (List.getElem?_eq_some_iff.mp h).1
    obtain ⟨j, e, hj⟩ := w.up n (by omega) hl
    rw [h] at e
    have : i = (j : Int) := by injection e with e; injection e
    omega
def encD : Option Int → PyData
  | none => .none
  | some i => .int i
theorem dp_enc1 {K : PySem.W.Frag} {H : Hp} (o : Option Int) : Dp K H (enc o) (encD o) := by
  cases o with
  | none => exact .non
  | some i => exact .int i
def rowD (hs ts : List (Option Int)) (k : Nat) : PyData := .list [encD (hs[k]?.getD none), .list ((rowW hs k).map pnint), .list ((withinL hs ts k).map pnint), encD (ts[k]?.getD none)]
def stD (hs ts : List (Option Int)) : PyData := .list [.list ((stand ts).map pnint), .int (hs.length : Int), .list ((List.range hs.length).map (rowD hs ts))]
theorem okT_enc {o : Option Int} (h : ∀ i, o = some i → i.natAbs < 1000) : OkT (encD o) 0 0 := by
  have e38 : (10 : Nat) ^ 38 = 100000000000000000000000000000000000000 := by decide
  cases o with
  | none => exact ⟨by simp only [encD, okD], by simp only [encD, PyData.bulk]; omega, by simp only [encD, PyData.depth]; omega⟩
  | some i => exact ⟨by have := h i rfl; simp only [encD, okD, decide_eq_true_eq, e38]; omega, by simp only [encD, PyData.bulk]; omega, by simp only [encD, PyData.depth]; omega⟩
theorem okT_nat {n : Nat} (h : n < 10000) : OkT (pnint n) 0 0 := by
  have e38 : (10 : Nat) ^ 38 = 100000000000000000000000000000000000000 := by decide
  exact ⟨by simp only [pnint, okD, decide_eq_true_eq, e38]; omega, by simp only [pnint, PyData.bulk]; omega, by simp only [pnint, PyData.depth]; omega⟩
theorem okT_nats {xs : List Nat} {N : Nat} (h : ∀ x ∈ xs, x < 10000) (hl : xs.length ≤ N) : OkT (.list (xs.map pnint)) N 1 := by
  obtain ⟨a, b, c⟩ := all_ok (N := 0) (M := 0) (ds := xs.map pnint) fun d hd => by
    obtain ⟨x, hx, rfl⟩ := List.mem_map.mp hd
    exact okT_nat (h x hx)
  exact OkT.lstN a (by rw [List.length_map] at b; omega) c
theorem OkT.more {d : PyData} {N M N' M' : Nat} (y : OkT d N M) (h : N ≤ N') (g : M ≤ M') : OkT d N' M' := ⟨y.ok, Nat.le_trans y.b h, Nat.le_trans y.h g⟩
theorem row_small {hs ts : List (Option Int)} (w : Wf hs ts) {n : Nat} (hn : n < hs.length) : (∀ x ∈ rowW hs n, x < 10000) ∧ (rowW hs n).length ≤ 200 := by
  have ws := w.small
  have h1 := row_len w (n + 1) n (by omega) hn
  exact ⟨fun x hx => by have := row_lt w (n + 1) n (by omega) hn x hx; omega, by omega⟩
theorem okT_row {hs ts : List (Option Int)} (w : Wf hs ts) (tk : TOk ts) {k : Nat} (hk : k < hs.length) : OkT (rowD hs ts k) 1000 2 := by
  have ws := w.small
  have wl := w.len
  obtain ⟨r1, r2⟩ := row_small w hk
  have wl2 := withinL_len hs ts k
  obtain ⟨a, b, c⟩ := all_ok (N := 201) (M := 1) (ds := [encD (hs[k]?.getD none), .list ((rowW hs k).map pnint), .list ((withinL hs ts k).map pnint), encD (ts[k]?.getD none)]) fun d hd => by
    simp only [List.mem_cons, List.not_mem_nil, or_false] at hd
    rcases hd with rfl | rfl | rfl | rfl
    · refine (okT_enc fun i e => ?_).more (by omega) (by omega)
      rw [List.getElem?_eq_getElem hk] at e
      exact tok_hs w (n := k) (by rw [List.getElem?_eq_getElem hk]; exact congrArg some e)
    · exact (okT_nats r1 r2).more (by omega) (by omega)
    · exact (okT_nats (fun x hx => by have := withinL_lt hx; omega) (by omega : _ ≤ 200)).more (by omega) (by omega)
    · refine (okT_enc fun i e => ?_).more (by omega) (by omega)
      have hkt : k < ts.length := by omega
      rw [List.getElem?_eq_getElem hkt] at e
      exact tk i (e ▸ List.getElem_mem hkt)
  exact OkT.lstN a (by simp only [List.length_cons, List.length_nil] at b; omega) c
theorem okT_st {hs ts : List (Option Int)} (w : Wf hs ts) (tk : TOk ts) : OkT (stD hs ts) 200000 4 := by
  have ws := w.small
  have wl := w.len
  have sl := stand_len ts
  have rows := all_ok (N := 1000) (M := 2) (ds := (List.range hs.length).map (rowD hs ts)) fun d hd => by
    obtain ⟨k, hk, rfl⟩ := List.mem_map.mp hd
    exact okT_row w tk (List.mem_range.mp hk)
  have rowsT : OkT (.list ((List.range hs.length).map (rowD hs ts))) 110000 3 := OkT.lstN rows.1 (by have := rows.2.1; rw [List.length_map, List.length_range] at this; omega) rows.2.2
  have stT : OkT (.list ((stand ts).map pnint)) 200 1 := okT_nats (fun x hx => by have := stand_lt hx; omega) (by omega)
  have lnT : OkT (.int (hs.length : Int)) 0 0 := okT_nat (n := hs.length) (by omega)
  have o1 := stT.ok
  have o2 := lnT.ok
  have o3 := rowsT.ok
  refine OkT.lstN (by simp only [okDs, o1, o2, o3, Bool.and_self]) ?_ ?_
  · have b1 := stT.b; have b2 := lnT.b; have b3 := rowsT.b
    simp only [PyData.bulkAll]; omega
  · have b1 := stT.h; have b2 := lnT.h; have b3 := rowsT.h
    simp only [PyData.depthAll]; omega
theorem dps_nint {K : PySem.W.Frag} {H : Hp} (xs : List Nat) : DpAll K H (xs.map nint) (xs.map pnint) := dp_nint K H xs
def spState (K : PySem.W.Frag) : Sp := fun vs H Q _ => ∃ p h t hs ts, vs = [.ref p] ∧ FrAt (CF K) H p h t hs ts ∧ TOk ts ∧ ∀ H', Kp [] H H' → Q (.str (stD hs ts).shown) H'
section
variable {P : Program} {w : World} {K : PySem.W.Frag} {mg : Str → Option Value} {base : Heap}
theorem ok_state (T : Tx K mg) {fd : FuncData} (F : Fun K "_law_state" "_law_state" s__law_state (He.ga K "_law_state") fd) (m_begun : Met P w K mg base 1 (CF K) "begun" (spBegun (CF K))) (m_standing : Met P w K mg base 1 (CF K) "standing" (spStanding (CF K)))
    (m_inside : Met P w K mg base 4 (CF K) "inside" (orS (spInside (CF K)) (spBegX K))) (m_row : Met P w K mg base 4 (CF K) "row" (orS (spRow (CF K)) (spBegX K))) (m_within : Met P w K mg base 4 (CF K) "within" (orS (spWithin (CF K)) (spBegX K))) (m_ended_by : Met P w K mg base 4 (CF K) "ended_by" (orS (spBy (CF K)) (spBegX K))) :
    FnG P w K mg base 6 (He.ga K "_law_state") fd ["_law_frames"] (spState K) := by
  refine FnG.of F sc__law_state (fun vs H Q E h => ?_) (fun cdv A outer s H vs Q E hr h => ?_)
  · obtain ⟨p, h, t, hs, ts, rfl, _⟩ := h; rfl
  · obtain ⟨p, h, t, hs, ts, rfl, fr, tk, q⟩ := h
    have wf := fr.wf
    have wl := wf.len
    have ws := wf.small
    obtain ⟨dx, fs, ep, ff⟩ := fr.ob
    refine ⟨_, pss_cons (ps_set (i := 1) sc__law_state.nd rfl (by first | exact Or.inl rfl | exact Or.inr rfl) (pe_op op_add (gm0 m_begun (hr.mono (by decide)) takes0 (pv 0)) (pe_int)))
      (pss_cons (ps_setLc (i := 2) (own := [("_law_k", 3)]) (g := gName 3) (tt := tYes) rfl sc__law_state.nd rfl rfl (sw_true rfl rfl rfl (by decide +kernel)) (pi_range1 rfl T.z_range (pa_cons (pv 1) (pa_nil))) (blkOk_by (own := [("_law_k", 3)]) (N := ["_law_frames", "_law_many", "_law_rows", "_law_k"]) (sc := defScope s__law_state) (by decide +kernel)) (fun _ _ _ _ _ => pg_name (i := 3) sc__law_state.nd rfl (by first | exact Or.inl rfl | exact Or.inr rfl)) (fun _ _ _ _ _ => by exact pts_nil) (fun _ _ _ _ _ => by exact pe_lst (pa_cons (gm m_inside (hr.mono (by decide)) takes0 (pv 0) (pa_cons (pv 3) (pa_nil))) (pa_cons (gm m_row (hr.mono (by decide)) takes0 (pv 0) (pa_cons (pv 3) (pa_nil))) (pa_cons (gm m_within (hr.mono (by decide)) takes0 (pv 0) (pa_cons (pv 3) (pa_nil))) (pa_cons (gm m_ended_by (hr.mono (by decide)) takes0 (pv 0) (pa_cons (pv 3) (pa_nil))) (pa_nil)))))))
      (pss_one (ps_ret (krepr K hr T.z_repr (pe_lst (pa_cons (gm0 m_standing (hr.mono (by decide)) takes0 (pv 0)) (pa_cons (pv 1) (pa_cons (pv 2) (pa_nil))))))))), ?_⟩
    refine ⟨_, rfl, p, dx, fs, rfl, ep, ff.no _ (by decide +kernel), p, h, t, hs, ts, rfl, fr, _, _, rfl, rfl, ?_⟩
    have en : (hs.length : Int) - 1 + 1 = (hs.length : Int) := by omega
    refine ⟨_, rfl, _, rfl, by omega, by omega, fun D hD => ?_⟩
    have e2 : ((hs.length : Int) - 1 + 1).toNat = hs.length := by omega
    refine lc_range (lo := 0) (n := _) (fun i H' => Kp [] H H' ∧ ∃ vs : List V, H' D = some (.lst vs) ∧ vs.length = i ∧ ∀ H'', Kp [D] H' H'' → DpAll K H'' vs ((List.range i).map (rowD hs ts))) ⟨(Kp.refl (S := [])).new hD, [], upd_same, rfl, fun H'' _ => .nil⟩ ?_ ?_
    · rintro i H1 hi ⟨k1, vs, eD, vl, dp⟩
      have hi2 : i < hs.length := by rw [e2] at hi; exact hi
      have hit : i < ts.length := by omega
      have fr1 := fr.kp0 k1
      refine ⟨rfl, _, rfl, p, dx, fs, rfl, k1 _ _ ep (by simp), ff.no _ (by decide +kernel), _, rfl, .inl ⟨p, h, t, hs, ts, i, _, by rw [Int.zero_add]; rfl, fr1, List.getElem?_eq_getElem hi2, ?_⟩⟩
      refine ⟨_, rfl, p, dx, fs, rfl, k1 _ _ ep (by simp), ff.no _ (by decide +kernel), _, rfl, .inl ⟨p, h, t, hs, ts, i, by rw [Int.zero_add]; rfl, fr1, hi2, fun l2 H2 hl2 k2 el2 => ?_⟩⟩
      have k12 := k1.trans k2
      refine ⟨_, rfl, p, dx, fs, rfl, k12 _ _ ep (by simp), ff.no _ (by decide +kernel), _, rfl, .inl ⟨p, h, t, hs, ts, i, by rw [Int.zero_add]; rfl, fr.kp0 k12, hi2, fun l3 H3 hl3 k3 el3 => ?_⟩⟩
      have k13 := k12.trans k3
      refine ⟨_, rfl, p, dx, fs, rfl, k13 _ _ ep (by simp), ff.no _ (by decide +kernel), _, rfl, .inl ⟨p, h, t, hs, ts, i, _, by rw [Int.zero_add]; rfl, fr.kp0 k13, List.getElem?_eq_getElem hit, (by show 4 ≤ sizeLine; decide), fun l4 hl4 => ?_⟩⟩
      have k4 := (Kp.refl (S := []) (H := H3)).new (o := .lst [enc hs[i], .ref l2, .ref l3, enc ts[i]]) hl4
      have el4 : upd H3 l4 (.lst [enc hs[i], .ref l2, .ref l3, enc ts[i]]) l4 = some (.lst [enc hs[i], .ref l2, .ref l3, enc ts[i]]) := upd_same
      generalize upd H3 l4 (.lst [enc hs[i], .ref l2, .ref l3, enc ts[i]]) = H4 at *
      have k24 := (k2.trans k3).trans k4
      have eD4 := k24 _ _ eD (by simp)
      have kW : Kp [D] H4 (upd H4 D (.lst (vs ++ [.ref l4]))) := fun b o e hb' => (upd_ne (by simpa using hb')).trans e
      have n2 : l2 ≠ D := fun z => by rw [z, eD] at hl2; cases hl2
      have n3 : l3 ≠ D := fun z => by rw [z, k2 _ _ eD (by simp)] at hl3; cases hl3
      have n4 : l4 ≠ D := fun z => by rw [z, (k2.trans k3) _ _ eD (by simp)] at hl4; cases hl4
      refine ⟨_, eD4, (by rw [vl]; exact Nat.lt_of_le_of_lt (m := 101) (by omega) (by decide)), fun b o e hb' => (upd_ne (ne_of_none e hD)).trans ((k1.trans k24) b o e hb'), vs ++ [.ref l4], upd_same, by rw [List.length_append, vl]; rfl, fun H'' k'' => ?_⟩
      have k4'' : Kp [D] H4 H'' := kW.trans k''
      rw [List.range_succ, List.map_append]
      refine DpAll.snoc ?_ (dp H'' ((k24.mono (by simp)).trans k4''))
      have eH : hs[i]?.getD none = hs[i] := by rw [List.getElem?_eq_getElem hi2]; rfl
      have eT : ts[i]?.getD none = ts[i] := by rw [List.getElem?_eq_getElem hit]; rfl
      unfold rowD
      rw [eH, eT]
      exact .lst (SqL.of (k4'' _ _ el4 (by simpa using n4))) (.cons (dp_enc1 _) (.cons (.lst (SqL.of (k4'' _ _ ((k3.trans k4) _ _ el2 (by simp)) (by simpa using n2))) (dps_nint _)) (.cons (.lst (SqL.of (k4'' _ _ (k4 _ _ el3 (by simp)) (by simpa using n3))) (dps_nint _)) (.cons (dp_enc1 _) .nil))))
    · rintro H1 ⟨k1, vs, eD, vl, dp⟩
      rw [e2] at dp
      have fr1 := fr.kp0 k1
      refine ⟨_, rfl, p, dx, fs, rfl, k1 _ _ ep (by simp), ff.no _ (by decide +kernel), p, h, t, hs, ts, rfl, fr1, fun l2 H2 hl2 k2 el2 => ⟨_, rfl, _, rfl, (by show 3 ≤ sizeLine; decide), fun l3 hl3 => ?_⟩⟩
      have k3 := (Kp.refl (S := []) (H := H2)).new (o := .lst [.ref l2, .int ((hs.length : Int) - 1 + 1), .ref D]) hl3
      have e3 : upd H2 l3 (.lst [.ref l2, .int ((hs.length : Int) - 1 + 1), .ref D]) l3 = some (.lst [.ref l2, .int (hs.length : Int), .ref D]) := by rw [upd_same, en]
      generalize upd H2 l3 (.lst [.ref l2, .int ((hs.length : Int) - 1 + 1), .ref D]) = H3 at *
      have k23 := k2.trans k3
      have ok := okT_st wf tk
      refine ⟨_, _, rfl, shw_at (.lst (SqL.of e3) (.cons (.lst (SqL.of (k3 _ _ el2 (by simp))) (dps_nint _)) (.cons (.int _) (.cons (.lst (SqL.of (k23 _ _ eD (by simp))) (dp _ (k23.mono (by simp)))) .nil)))) (d := stD hs ts) ok.ok (Nat.le_trans ok.b (by omega)) (Nat.le_trans ok.h (by omega)), q H3 (k1.trans k23)⟩
end

end Lw
namespace Lw
open PySem PySem.Spec L2 FG
open PyProof.Rows hiding St
/-! ### it goes on as if nothing had been asked -/
theorem lastV {xs : List Nat} (h : xs ≠ []) : ∃ x ∈ xs, atI (xs.map nint) (-1) = some (nint x) := by
  obtain ⟨ys, y, rfl⟩ : ∃ ys y, xs = ys ++ [y] := ⟨xs.dropLast, xs.getLast h, (List.dropLast_concat_getLast h).symm⟩
  exact ⟨y, by simp, by rw [List.map_append]; exact L2.atI_last _ _⟩
theorem lay_nints (xs : List Nat) : PyData.canLayAll0 (xs.map pnint) = true ∧ PyData.depthAll (xs.map pnint) ≤ 0 := by
  induction xs with
  | nil => exact ⟨rfl, Nat.le_refl _⟩
  | cons x xs ih => 
    refine ⟨?_, ?_⟩
    · simp only [List.map_cons, PyData.canLayAll0, pnint, PyData.canLay0, Bool.true_and]; exact ih.1
    · simp only [List.map_cons, PyData.depthAll, pnint, PyData.depth]; have := ih.2; omega
theorem shaped_nints (xs : List Nat) : SeqAt.shaped (.list (xs.map pnint)) = true := by
  obtain ⟨a, b⟩ := lay_nints xs
  unfold SeqAt.shaped
  rw [Bool.and_eq_true, decide_eq_true_eq]
  exact ⟨by simp only [PyData.canLay0]; exact a, by simp only [PyData.depth]; omega⟩
theorem shaped_encs (o o' : Option Int) : SeqAt.shaped (.list [encD o, encD o']) = true := by
  cases o <;> cases o' <;> rfl
theorem eqv_self {d : PyData} (h : SeqAt.shaped d = true) : PyData.eqv d d = true := by
  unfold SeqAt.shaped at h
  rw [Bool.and_eq_true] at h
  exact SeqAt.eqv_refl d h.1
theorem iteF_ne {v : V} {A B : Prop} (h : B) : if (!decide (v = v)) = true then A else B := by rw [decide_eq_true rfl]; exact iteF h
def spGoes (K : PySem.W.Frag) : Sp := fun vs H Q _ => ∃ b p h t m mh mt hs ts, ∃ n : Int, vs = [.ref b, .ref p, .ref m] ∧ Pr (CF K) H p h t m mh mt hs ts ∧ BoxAt H b n ∧ n < 100000 ∧ b ∉ [p, h, t, m, mh, mt] ∧
  ∀ H', Kp [b, h, t, mh, mt] H H' → Q (.bl true) H'
section
variable {P : Program} {w : World} {K : PySem.W.Frag} {mg : Str → Option Value} {base : Heap}
theorem ok_goes (T : Tx K mg) {fd : FuncData} (F : Fun K "_law_goes_on" "_law_goes_on" s__law_goes_on (He.ga K "_law_goes_on") fd) (c__law_one : Cal P w K mg base 2 "_law_one" spOne)
    (c__law_standing : Cal P w K mg base 1 "_law_standing" spLStanding) (c__law_finish : Cal P w K mg base 2 "_law_finish" spLFin) (c__law_begin : Cal P w K mg base 1 "_law_begin" spLBegin)
    (m_begun : Met P w K mg base 1 (CF K) "begun" (spBegun (CF K))) (m_inside : Met P w K mg base 4 (CF K) "inside" (orS (spInside (CF K)) (spBegX K))) (m_ended_by : Met P w K mg base 4 (CF K) "ended_by" (orS (spBy (CF K)) (spBegX K)))
    (m_finish : Met P w K mg base 5 (CF K) "finish" (orS (spFin (CF K)) (spFinX K))) (m_begin : Met P w K mg base 5 (CF K) "begin" (orS (spBegin (CF K)) (spBeginX K))) : FnG P w K mg base 6 (He.ga K "_law_goes_on") fd ["_law_box_here", "_law_frames", "_law_model_here"] (spGoes K) := by
  refine FnG.of F sc__law_goes_on (fun vs H Q E h => ?_) (fun cdv A outer s H vs Q E hr h => ?_)
  · obtain ⟨b, p, h, t, m, mh, mt, hs, ts, n, rfl, _⟩ := h; rfl
  · obtain ⟨b, p, h, t, m, mh, mt, hs0, ts0, n, rfl, pr0, hb, hn, nb, q⟩ := h
    have nb' := nb
    simp only [List.mem_cons, List.not_mem_nil, or_false, not_or] at nb'
    obtain ⟨n1, n2, n3, n4, n5, n6⟩ := nb'
    refine ⟨_, pss_cons (ps_for (passes_of rfl) rfl (pi_range1 rfl T.z_range (pa_cons (pe_int) (pa_nil))) (pg_name (i := 3) sc__law_goes_on.nd rfl (by first | exact Or.inl rfl | exact Or.inr rfl))
        (pss_cons (ps_set (i := 4) sc__law_goes_on.nd rfl (by first | exact Or.inl rfl | exact Or.inr rfl) (gc c__law_one (hr.mono (by decide)) takes0 (pa_cons (pv 0) (pa_cons (gc c__law_standing (hr.mono (by decide)) takes0 (pa_cons (pv 2) (pa_nil))) (pa_nil)))))
      (pss_cons (ps_if (PW.pt (pw_and (pt_cmpR op_le (pe_callB (klen K) (by rfl) T.z_len PySem.boot_len (pa_cons (pe_dget hr.hu (pv 2) (pe_str) (fun _ _ => rfl)) (pa_nil))) (pe_int) (by first | exact nomark _ | rfl)) (pw_and1 (pt_cmpR op_ne (gm m_begin (hr.mono (by decide)) takes0 (pv 1) (pa_cons (pv 4) (pa_nil))) (gc c__law_begin (hr.mono (by decide)) takes0 (pa_cons (pv 2) (pa_cons (pv 4) (pa_nil)))) (by first | exact nomark _ | rfl))))) (pss_one (ps_ret (pe_bl))) (pss_nil))
      (pss_cons (ps_set (i := 4) sc__law_goes_on.nd rfl (by first | exact Or.inl rfl | exact Or.inr rfl) (pe_ix (kixL K) (gc c__law_standing (hr.mono (by decide)) takes0 (pa_cons (pv 2) (pa_nil))) (pe_un un_neg (pe_int)) (fun _ _ => rfl)))
      (pss_one (ps_if (PW.pt (pw_and (pt_cmpR op_gt (pv 3) (pe_int) (by first | exact nomark _ | rfl)) (pw_and (pt_cmpR op_gt (pv 4) (pe_int) (by first | exact nomark _ | rfl)) (pw_and1 (pt_cmpR (kneD K hr.r.units) (gm m_finish (hr.mono (by decide)) takes0 (pv 1) (pa_cons (pv 4) (pa_nil))) (gc c__law_finish (hr.mono (by decide)) takes0 (pa_cons (pv 2) (pa_cons (pv 4) (pa_nil)))) (by first | exact nomark _ | rfl)))))) (pss_one (ps_ret (pe_bl))) (pss_nil)))))))
      (pss_cons (ps_for (passes_of rfl) rfl (pi_range1 rfl T.z_range (pa_cons (pe_callB (klen K) (by rfl) T.z_len PySem.boot_len (pa_cons (pe_dget hr.hu (pv 2) (pe_str) (fun _ _ => rfl)) (pa_nil))) (pa_nil))) (pg_name (i := 5) sc__law_goes_on.nd rfl (by first | exact Or.inl rfl | exact Or.inr rfl))
        (pss_one (ps_if (pt_cmpR (kneD K hr.r.units) (pe_lst (pa_cons (gm m_inside (hr.mono (by decide)) takes0 (pv 1) (pa_cons (pv 5) (pa_nil))) (pa_cons (gm m_ended_by (hr.mono (by decide)) takes0 (pv 1) (pa_cons (pv 5) (pa_nil))) (pa_nil)))) (pe_lst (pa_cons (pe_ix (kixL K) (pe_dget hr.hu (pv 2) (pe_str) (fun _ _ => rfl)) (pv 5) (fun _ _ => rfl)) (pa_cons (pe_ix (kixL K) (pe_dget hr.hu (pv 2) (pe_str) (fun _ _ => rfl)) (pv 5) (fun _ _ => rfl)) (pa_nil)))) (by first | exact nomark _ | rfl)) (pss_one (ps_ret (pe_bl))) (pss_nil))))
      (pss_one (ps_ret (pe_cmpR op_eq (gm0 m_begun (hr.mono (by decide)) takes0 (pv 1)) (pe_op op_sub (pe_callB (klen K) (by rfl) T.z_len PySem.boot_len (pa_cons (pe_dget hr.hu (pv 2) (pe_str) (fun _ _ => rfl)) (pa_nil))) (pe_int)) (by first | exact nomark _ | rfl))))), ?_⟩
    refine ⟨_, rfl, by decide, by decide, for_range (lo := 0) (n := _) (fun i σ H' => ∃ hs ts v3 v4 v5, σ = [some (.ref b), some (.ref p), some (.ref m), v3, v4, v5] ∧ Kp [b, h, t, mh, mt] H H' ∧ Pr (CF K) H' p h t m mh mt hs ts ∧ BoxAt H' b (n + 4 * (i : Int))) ⟨hs0, ts0, none, none, none, rfl, Kp.refl, pr0, hb.more (by omega)⟩ ?_ ?_⟩
    · rintro i σ H1 hi ⟨hs, ts, v3, v4, v5, rfl, K1, pr, b1⟩
      have hi4 : i < 4 := hi
      have wf := pr.f.wf
      have wl := wf.len
      have ws := wf.small
      refine ⟨_, rfl, _, rfl, m, mh, mt, hs, ts, rfl, pr.m, by omega, fun l H3 hl3 k3 eL3 => ?_⟩
      have b3 := b1.kp k3 (by simp)
      have pr3 := pr.kp0 k3
      have nbl : b ≠ l := (b1.ne hl3).symm
      have ne0 : stand ts ≠ [] := fun c => by have := mem_stand.mpr pr.g; rw [c] at this; cases this
      refine ⟨b, l, _, stand ts, rfl, b3, by omega, eL3, nbl, ne0, Nat.le_trans (stand_len ts) (by omega), fun H4 f hf k4 b4 => ?_⟩
      have hft := mem_stand.mp hf
      have hfl : f < ts.length := stand_lt hf
      have pr4 := pr3.kp k4 (by simpa using nb)
      have kA : Kp [b] H1 H4 := (k3.mono (by simp)).trans k4
      have kA' : Kp [b, h, t, mh, mt] H H4 := K1.trans (kA.mono (by simp))
      obtain ⟨dx, fs, ep, ff⟩ := pr4.f.ob
      refine ⟨_, rfl, m, _, rfl, pr4.m.getH, mh, _, rfl, .inl (SqL.of pr4.m.lh), _, _, rfl, rfl, _, rfl, ?_⟩
      refine ite2 (fun h100 => ?ba) (fun h100 => iteF ?bb)
      case' ba =>
        have h100' : hs.length ≤ 100 := by
          have z : (((hs.map enc).length : Int) ≤ 100) := by simpa using h100
          rw [List.length_map] at z; omega
        refine ⟨_, rfl, p, dx, fs, rfl, ep, ff.no _ (by decide +kernel), _, rfl, .inl ⟨p, h, t, hs, ts, f, rfl, pr4.f, hft, h100', fun H5 k5 fr5 => ?_⟩⟩
        refine ⟨_, rfl, _, rfl, m, mh, mt, hs, ts, f, rfl, pr4.md4 k5, by omega, by omega, fun H6 k6 md6 => ?_⟩
        obtain ⟨pr6, k46⟩ := pr4.beg2 k5 fr5 k6 md6
        refine ⟨rfl, _, rfl, iteF_ne ?_⟩
        generalize hs ++ [some (f : Int)] = hs6 at pr6
        generalize ts ++ [none] = ts6 at pr6
      case' bb =>
        have pr6 := pr4
        have k46 : Kp [h, t, mh, mt] H4 H4 := Kp.refl
      all_goals
        have wf6 := pr6.f.wf
        have wl6 := wf6.len
        have ws6 := wf6.small
        have ne6 : stand _ ≠ [] := fun c => by have := mem_stand.mpr pr6.g; rw [c] at this; cases this
        refine ⟨_, rfl, m, mh, mt, _, _, rfl, pr6.m, by omega, fun l7 H7 hl7 k7 eL7 => ?_⟩
        obtain ⟨g, hg, eg⟩ := lastV ne6
        have hgt := mem_stand.mp hg
        have hgl := stand_lt hg
        refine ⟨_, rfl, l7, _, _, _, rfl, rfl, SqL.of eL7, eg, ?_⟩
        have pr7 := pr6.kp0 k7
        have k47 := k46.trans (k7.mono (S' := [h, t, mh, mt]) (by simp))
        obtain ⟨dx7, fs7, ep7, ff7⟩ := pr7.f.ob
        have fin : ∀ {H' hs' ts'}, Pr (CF K) H' p h t m mh mt hs' ts' → Kp [h, t, mh, mt] H4 H' → ∃ hs ts w3 w4 w5, [some (V.ref b), some (V.ref p), some (V.ref m), some (V.int (0 + (i : Int))), some (nint g), v5] = [some (V.ref b), some (V.ref p), some (V.ref m), w3, w4, w5] ∧ Kp [b, h, t, mh, mt] H H' ∧ Pr (CF K) H' p h t m mh mt hs ts ∧ BoxAt H' b (n + 4 * ((i + 1 : Nat) : Int)) := fun {H' hs' ts'} pr' k' =>
          ⟨hs', ts', _, _, _, rfl, kA'.trans (k'.mono (by simp)), pr', (b4.kp k' (by simp [n2, n3, n5, n6])).more (by omega)⟩
        refine ⟨_, rfl, _, _, rfl, rfl, _, rfl, ?_⟩
        refine ite2 (fun _ => ?_) (fun _ => iteF (fin pr7 k47))
        refine ⟨_, rfl, _, _, rfl, rfl, _, rfl, ?_⟩
        refine ite2 (fun g0 => ?_) (fun _ => iteF (fin pr7 k47))
        have hg0 : 0 < g := by have := of_decide_eq_true g0; omega
        refine ⟨_, rfl, p, dx7, fs7, rfl, ep7, ff7.no _ (by decide +kernel), _, rfl, .inl ⟨p, h, t, _, _, g, rfl, pr7.f, hgt, hg0, fun l8 H8 hl8 k8 fr8 eL8 => ?_⟩⟩
        refine ⟨_, rfl, _, rfl, m, mh, mt, _, _, g, rfl, pr7.md4 (k8.mono (by simp)), wf6, fun l9 H9 hl9 k9 md9 eL9 => ?_⟩
        obtain ⟨pr9, k79⟩ := pr7.fin2 hg0 hgl k8 fr8 k9 md9
        have n8 : l8 ≠ mt := (ne_of_none pr7.m.lt hl8).symm
        refine ⟨_, _, .lst (SqL.of (k9 _ _ eL8 (by simpa using n8))) (dps_nint _), .lst (SqL.of eL9) (dps_nint _), shaped_nints _, shaped_nints _, _, rfl, ?_⟩
        rw [eqv_self (shaped_nints _)]
        exact iteF (fin pr9 (k47.trans k79))
    · rintro σ H1 ⟨hs, ts, v3, v4, v5, rfl, K1, pr, b1⟩
      have wf := pr.f.wf
      have wl := wf.len
      have ws := wf.small
      obtain ⟨dx, fs, ep, ff⟩ := pr.f.ob
      refine ⟨_, rfl, m, _, rfl, pr.m.getH, mh, _, rfl, .inl (SqL.of pr.m.lh), _, rfl, (by rw [List.length_map]; omega), (by rw [List.length_map]; omega), for_range (lo := 0) (n := _) (fun i σ H' => ∃ v5, σ = [some (.ref b), some (.ref p), some (.ref m), v3, v4, v5] ∧ Kp [] H1 H') ⟨_, rfl, Kp.refl⟩ ?_ ?_⟩
      · rintro i σ H2 hi ⟨v5, rfl, k2⟩
        have hi2 : i < hs.length := by rw [List.length_map] at hi; simpa using hi
        have hit : i < ts.length := by omega
        have pr2 := pr.kp0 k2
        have eH : hs[i]? = some hs[i] := List.getElem?_eq_getElem hi2
        have eT : ts[i]? = some ts[i] := List.getElem?_eq_getElem hit
        refine ⟨_, rfl, p, dx, fs, rfl, k2 _ _ ep (by simp), ff.no _ (by decide +kernel), _, rfl, .inl ⟨p, h, t, hs, ts, i, _, by rw [Int.zero_add]; rfl, pr2.f, eH, ?_⟩⟩
        refine ⟨_, rfl, p, dx, fs, rfl, k2 _ _ ep (by simp), ff.no _ (by decide +kernel), _, rfl, .inl ⟨p, h, t, hs, ts, i, _, by rw [Int.zero_add]; rfl, pr2.f, eT, ?_⟩⟩
        refine ⟨(by show 2 ≤ sizeLine; decide), fun l3 hl3 => ?_⟩
        have k3 := (Kp.refl (S := []) (H := H2)).new (o := .lst [enc hs[i], enc ts[i]]) hl3
        have el3 : upd H2 l3 (.lst [enc hs[i], enc ts[i]]) l3 = some (.lst [enc hs[i], enc ts[i]]) := upd_same
        generalize upd H2 l3 (.lst [enc hs[i], enc ts[i]]) = H3 at *
        have pr3 := pr2.kp0 k3
        refine ⟨_, rfl, m, _, rfl, pr3.m.getH, _, rfl, mh, _, _, _, rfl, rfl, SqL.of pr3.m.lh, by rw [Int.zero_add]; exact get_enc eH, ?_⟩
        refine ⟨_, rfl, m, _, rfl, pr3.m.getT, _, rfl, mt, _, _, _, rfl, rfl, SqL.of pr3.m.lt, by rw [Int.zero_add]; exact get_enc eT, ?_⟩
        refine ⟨(by show 2 ≤ sizeLine; decide), fun l4 hl4 => ?_⟩
        have k4 := (Kp.refl (S := []) (H := H3)).new (o := .lst [enc hs[i], enc ts[i]]) hl4
        have el4 : upd H3 l4 (.lst [enc hs[i], enc ts[i]]) l4 = some (.lst [enc hs[i], enc ts[i]]) := upd_same
        generalize upd H3 l4 (.lst [enc hs[i], enc ts[i]]) = H4 at *
        refine ⟨_, _, .lst (SqL.of (k4 _ _ el3 (by simp))) (.cons (dp_enc1 _) (.cons (dp_enc1 _) .nil)), .lst (SqL.of el4) (.cons (dp_enc1 _) (.cons (dp_enc1 _) .nil)), shaped_encs _ _, shaped_encs _ _, _, rfl, ?_⟩
        rw [eqv_self (shaped_encs _ _)]
        exact iteF ⟨_, rfl, (k2.trans k3).trans k4⟩
      · rintro σ H2 ⟨v5, rfl, k2⟩
        have pr2 := pr.kp0 k2
        refine ⟨_, rfl, p, dx, fs, rfl, k2 _ _ ep (by simp), ff.no _ (by decide +kernel), p, h, t, hs, ts, rfl, pr2.f, ?_⟩
        refine ⟨_, rfl, m, _, rfl, pr2.m.getH, mh, _, rfl, .inl (SqL.of pr2.m.lh), _, _, rfl, rfl, rfl, ?_⟩
        rw [List.length_map]
        exact rt_of (by rw [decide_eq_true rfl]) (q H2 (K1.trans (k2.mono (by simp))))
end

end Lw
namespace Lw
open PySem PySem.Spec L2 FG
open PyProof.Rows hiding St
/-! ### the texts of what is due -/
def toD (dv : PyData) : V → PyData
  | .non => .none
  | .bl b => .bool b
  | .int i => .int i
  | .str z => .str z
  | _ => dv
def dueD (hs ts : List (Option Int)) (way : Int) (v : V) (dv : PyData) : PyData := .list ((dueV hs ts way v).map (toD dv))
/-- v is laid as dv, and may be shown -/
structure Rd (K : PySem.W.Frag) (H : Hp) (v : V) (dv : PyData) : Prop where
  dp : Dp K H v dv ∨ ∃ a, v = .ref a ∧ H a = some (.dK []) ∧ dv = .dict []
  ok : OkT dv 200 2
  to : toD dv v = dv
theorem dp1 {K : PySem.W.Frag} {H : Hp} {z : Int} : DpAll K H [.int z] [.int z] := .cons (.int _) .nil
theorem Thg.rd {K : PySem.W.Frag} {H : Hp} {v : V} {d : PyData} (t : Thg H v d) : Rd K H v d := by
  have e37 : (10 : Nat) ^ 37 = 10000000000000000000000000000000000000 := by decide
  have e38 : (10 : Nat) ^ 38 = 100000000000000000000000000000000000000 := by decide
  cases t with
  | non => exact ⟨.inl .non, ⟨by simp only [okD], by simp only [PyData.bulk]; omega, by simp only [PyData.depth]; omega⟩, rfl⟩
  | bl b => exact ⟨.inl (.bl b), ⟨by simp only [okD], by simp only [PyData.bulk]; omega, by simp only [PyData.depth]; omega⟩, rfl⟩
  | int i h => exact ⟨.inl (.int i), ⟨by simp only [okD, decide_eq_true_eq]; omega, by simp only [PyData.bulk]; omega, by simp only [PyData.depth]; omega⟩, rfl⟩
  | str z a b c => exact ⟨.inl (.str z), ⟨a, by omega, by simp only [PyData.depth]; omega⟩, rfl⟩
  | lst e => exact ⟨.inl (.lst (SqL.of e) dp1), ⟨by simp only [okD, okDs]; decide, by simp only [PyData.bulk, PyData.bulkAll]; omega, by simp only [PyData.depth, PyData.depthAll]; omega⟩, rfl⟩
  | tup e => exact ⟨.inl (.tup (SqT.of e) dp1), ⟨by simp only [okD, okDs]; decide, by simp only [PyData.bulk, PyData.bulkAll]; omega, by simp only [PyData.depth, PyData.depthAll]; omega⟩, rfl⟩
  | emp e => exact ⟨.inr ⟨_, rfl, e, rfl⟩, ⟨rfl, by simp only [PyData.bulk, PyData.bulkKv]; omega, by simp only [PyData.depth, PyData.depthKv]; omega⟩, rfl⟩
theorem rd_more {K : PySem.W.Frag} {H : Hp} {a : Addr} (e : H a = some (.lst [.int 0, .str "more"])) : Rd K H (.ref a) (.list [.int 0, .str "more"]) :=
  ⟨.inl (.lst (SqL.of e) (.cons (.int _) (.cons (.str _) .nil))), ⟨by simp only [okD, okDs]; decide, by simp only [PyData.bulk, PyData.bulkAll]; decide, by simp only [PyData.depth, PyData.depthAll]; omega⟩, rfl⟩
theorem due_shape {hs ts : List (Option Int)} (w : Wf hs ts) (tk : TOk ts) (way : Int) (v : V) :
    dueV hs ts way v = [.str "told"] ∨ dueV hs ts way v = [.str "ground"] ∨ dueV hs ts way v = [.str "many", .int 101] ∨ dueV hs ts way v = [.str "frame", v] ∨ ∃ z i : Int, v = .int z ∧ dueV hs ts way v = [.str "gone", .int z, .int i] ∧ i.natAbs < 1000 := by
  rcases bad_or hs v with h | ⟨n, rfl, hn⟩
  · exact .inr (.inr (.inr (.inl (due_bad h))))
  · rw [due_num hn]
    have wl := w.len
    by_cases h1 : 1 < way
    · rw [if_pos h1]; exact .inl rfl
    · rw [if_neg h1, List.getElem?_eq_getElem (by omega : n < ts.length)]
      cases e : ts[n]'(by omega) with
      | some i => exact .inr (.inr (.inr (.inr ⟨_, i, rfl, rfl, tk i (e ▸ List.getElem_mem _)⟩)))
      | none =>
        show (if way = 1 ∧ (n : Int) = 0 then _ else _) = _ ∨ _
        by_cases h2 : way = 1 ∧ (n : Int) = 0
        · rw [if_pos h2]; exact .inr (.inl rfl)
        · rw [if_neg h2]
          by_cases h3 : way = 0 ∧ 100 < hs.length
          · rw [if_pos h3]; exact .inr (.inr (.inl rfl))
          · rw [if_neg h3]; exact .inl rfl
theorem due0 {hs ts : List (Option Int)} (w : Wf hs ts) (v : V) : ∃ k rest, dueV hs ts 0 v = .str k :: rest ∧ (inV (.str k) [.str "told", .str "many"] = true ↔ ∃ n : Nat, v = nint n ∧ ts[n]? = some none) := by
  have wl := w.len
  rcases bad_or hs v with h | ⟨n, rfl, hn⟩
  · refine ⟨_, _, due_bad h, fun c => by exact absurd c (by decide), fun ⟨n, e, e2⟩ => ?_⟩
    exact absurd (by have := (List.getElem?_eq_some_iff.mp e2).1; omega) (h n e)
  · rw [due_num hn]
    rw [if_neg (by decide)]
    have hn2 : n < ts.length := by omega
    have e1 : ts[n]? = some ts[n] := List.getElem?_eq_getElem hn2
    rw [e1]
    have uq : ∀ {m : Nat}, nint n = nint m → m = n := fun {m} c => by unfold nint at c; injection c with c; omega
    cases e : ts[n] with
    | some i => exact ⟨_, _, rfl, fun c => absurd c (by decide), fun ⟨m, c, e2⟩ => by rw [uq c, e1, e] at e2; injection e2 with e2; cases e2⟩
    | none =>
      show ∃ k rest, (if (0 : Int) = 1 ∧ (n : Int) = 0 then _ else _) = _ ∧ _
      rw [if_neg (by omega)]
      by_cases h3 : (0 : Int) = 0 ∧ 100 < hs.length
      · rw [if_pos h3]; exact ⟨_, _, rfl, fun _ => ⟨n, rfl, by rw [e1, e]⟩, fun _ => by decide⟩
      · rw [if_neg h3]; exact ⟨_, _, rfl, fun _ => ⟨n, rfl, by rw [e1, e]⟩, fun _ => by decide⟩
theorem due_shw {K : PySem.W.Frag} {H : Hp} {hs ts : List (Option Int)} {way : Int} {v : V} {dv : PyData} {l : Addr} (w : Wf hs ts) (tk : TOk ts) (rd : Rd K H v dv) (e : H l = some (.lst (dueV hs ts way v))) (nl : l ≠ sysModules) : Shw K H (.ref l) (dueD hs ts way v dv) := by
  have e38 : (10 : Nat) ^ 38 = 100000000000000000000000000000000000000 := by decide
  unfold dueD
  have go : ∀ {ds : List PyData}, DpAll K H (dueV hs ts way v) ds → OkT (.list ds) 1000 10 → Shw K H (.ref l) (.list ds) := fun {ds} a b => shw_at (.lst (SqL.of e) a) b.ok (Nat.le_trans b.b (by omega)) (Nat.le_trans b.h (by omega))
  rcases due_shape w tk way v with s | s | s | s | ⟨z, i, ev, s, hi⟩
  · rw [s] at go ⊢
    exact go (.cons (.str _) .nil) ⟨by simp only [okD, okDs, List.map, toD]; decide, by simp only [PyData.bulk, PyData.bulkAll, List.map, toD]; decide, by simp only [PyData.depth, PyData.depthAll, List.map, toD]; omega⟩
  · rw [s] at go ⊢
    exact go (.cons (.str _) .nil) ⟨by simp only [okD, okDs, List.map, toD]; decide, by simp only [PyData.bulk, PyData.bulkAll, List.map, toD]; decide, by simp only [PyData.depth, PyData.depthAll, List.map, toD]; omega⟩
  · rw [s] at go ⊢
    exact go (.cons (.str _) (.cons (.int _) .nil)) ⟨by simp only [okD, okDs, List.map, toD]; decide, by simp only [PyData.bulk, PyData.bulkAll, List.map, toD]; decide, by simp only [PyData.depth, PyData.depthAll, List.map, toD]; omega⟩
  · rw [s] at go e ⊢
    have o := rd.ok.lst1 (z := "frame") (by simp only [okD]; decide) (by decide)
    have em : ([V.str "frame", v] : List V).map (toD dv) = [.str "frame", dv] := by show [_, toD dv v] = _; rw [rd.to]; rfl
    rw [em]
    rcases rd.dp with d | ⟨a, ev, ea, ed⟩
    · exact go (.cons (.str _) (.cons d .nil)) (o.more (by omega) (by omega))
    · subst ev ed
      exact shw_atE (.lst e nl (.cons (.str _) (.cons (.emp ea) .nil))) o.ok (Nat.le_trans o.b (by omega)) (Nat.le_trans o.h (by omega))
  · have r1 : OkT (.int z) 200 2 := by have x := rd.ok; rw [← rd.to, ev] at x; exact x
    have r2 := r1.ok
    have r3 := r1.b
    have gb : (PyData.str "gone").bulk ≤ 100 := by decide
    have bb : (PyData.list [.str "gone", .int z, .int i]).bulk ≤ 1000 := by
      simp only [PyData.bulk, PyData.bulkAll] at gb r3 ⊢
      omega
    have dd : (PyData.list [.str "gone", .int z, .int i]).depth ≤ 10 := by simp only [PyData.depth, PyData.depthAll]; omega
    rw [s] at go ⊢
    refine go (.cons (.str _) (.cons (.int _) (.cons (.int _) .nil))) ⟨?_, bb, dd⟩
    show okD (.list [.str "gone", .int z, .int i]) = true
    simp only [okD, okDs, Bool.and_true, Bool.and_eq_true, decide_eq_true_eq] at r2 ⊢
    exact ⟨by decide, r2, by omega⟩
def lstV (H : Hp) : V → Bool
  | .ref a => match H a with
    | some (.lst _) => true
    | _ => false
  | _ => false
theorem Thg.tyl {H : Hp} {v : V} {d : PyData} (K : PySem.W.Frag) (t : Thg H v d) : ∃ t : String, TyX K H v (.type t) ∧ kitB t "list" = some (lstV H v) := by
  cases t with
  | non => exact ⟨_, .base .non, by show _ = some false; decide +kernel⟩
  | bl b => exact ⟨_, .base (.bl b), by show _ = some false; decide +kernel⟩
  | int i h => exact ⟨_, .base (.int i), by show _ = some false; decide +kernel⟩
  | str z a b c => exact ⟨_, .base (.str z), by show _ = some false; decide +kernel⟩
  | lst e => exact ⟨_, .base (.lst e), by simp only [lstV, e]; decide +kernel⟩
  | tup e => exact ⟨_, .base (.tup e), by simp only [lstV, e]; decide +kernel⟩
  | emp e => exact ⟨_, .base (.dK e), by simp only [lstV, e]; decide +kernel⟩
theorem Thg.isl {H : Hp} {v : V} {d : PyData} (t : Thg H v d) (h : lstV H v = true) : ∃ a, v = .ref a ∧ H a = some (.lst [.int 0]) ∧ d = .list [.int 0] := by
  cases t with
  | lst e => exact ⟨_, rfl, e, rfl⟩
  | tup e => simp only [lstV, e] at h; cases h
  | emp e => simp only [lstV, e] at h; cases h
  | _ => cases h

end Lw
namespace Lw
open PySem PySem.Spec L2 FG
open PyProof.Rows hiding St
/-! ### the law -/
theorem made_kp {H H1 : Hp} {p d : Addr} {u v : HO} (hp : H p = none) (hd : H d = none) (k : Kp [p] (upd (upd H d u) p v) H1) : Kp [] H H1 := fun b o e _ =>
  k b o (by rw [upd_ne (ne_of_none e hp), upd_ne (ne_of_none e hd)]; exact e) (by simpa using ne_of_none e hp)
theorem made_free {H : Hp} {p d b : Addr} {u v : HO} (n : upd (upd H d u) p v b = none) : H b = none := by
  have np : b ≠ p := fun c => by rw [c, upd_same] at n; cases n
  rw [upd_ne np] at n
  by_cases c : b = d
  · rw [c, upd_same] at n; cases n
  · rw [upd_ne c] at n; exact n
theorem Kp.out {S : List Addr} {H H1 H2 : Hp} (k : Kp [] H H1) (k2 : Kp S H1 H2) (n : ∀ s ∈ S, H s = none) : Kp [] H H2 := fun b o e _ => k2 b o (k b o e (by simp)) fun hb => by rw [n b hb] at e; cases e
theorem Kp.fr {H H1 : Hp} (k : Kp [] H H1) {a : Addr} (n : H1 a = none) : H a = none := by
  cases e : H a with
  | none => rfl
  | some o => rw [k a o e (by simp)] at n; cases n
theorem fork {b : Bool} {A : Prop} {H : Hp} {Q : Hp → Prop} (R : Hp → Prop) (r0 : R H) (hA : (∀ H', R H' → Q H') → A) (h : ∀ H', R H' → Q H') : if b = true then A else Q H := by
  cases b
  · exact iteF (h H r0)
  · exact iteT (hA h)
def spLaw (K : PySem.W.Frag) : Sp := fun vs H Q _ => ∃ (a : Addr) (ns : List Int), vs = [.ref a] ∧ ns.length ≤ 63 ∧ Scr K H a ns ∧ ∀ H', Q (.bl true) H'
section
variable {P : Program} {w : World} {K : PySem.W.Frag} {mg : Str → Option Value} {base : Heap}
theorem ok_law (T : Tx K mg) {fd : FuncData} (F : Fun K "law" "law" s_law (He.ga K "law") fd) (k_Frames : Mak P w K mg base 1 "Frames" (CF K) (spFInit (CF K))) (c__law_model : Cal P w K mg base 1 "_law_model" spModel) (c__law_cell : Cal P w K mg base 1 "_law_cell" (spCell K))
    (c__law_box : Cal P w K mg base 1 "_law_box" spBox) (c__law_take : Cal P w K mg base 1 "_law_take" spTake) (c__law_deeds : Cal P w K mg base 6 "_law_deeds" (spDeeds K)) (c__law_filled : Cal P w K mg base 6 "_law_filled" (spFilled K)) (c__law_state : Cal P w K mg base 6 "_law_state" (spState K))
    (c__law_things : Cal P w K mg base 2 "_law_things" spThings) (c__law_due : Cal P w K mg base 1 "_law_due" spDue) (c__law_caught : Cal P w K mg base 6 "_law_caught" (spCaught K)) (m_stands : Met P w K mg base 3 (CF K) "stands" (spStandsT K)) (c__law_goes_on : Cal P w K mg base 6 "_law_goes_on" (spGoes K)) :
    FnG P w K mg base 7 (He.ga K "law") fd ["_law_script"] (spLaw K) := by
  refine FnG.of F sc_law (fun vs H Q E h => ?_) (fun cdv A outer s H vs Q E hr h => ?_)
  · obtain ⟨a, ns, rfl, _⟩ := h; rfl
  · obtain ⟨a, ns, rfl, hlen, scr, q⟩ := h
    refine ⟨_, pss_cons (ps_for (passes_of rfl) rfl (pi_range1 rfl T.z_range (pa_cons (pe_callB (call_max2 rfl) (by rfl) T.z_max (by decide +kernel) (pa_cons (pe_int) (pa_cons (pe_callB (call_min2 rfl) (by rfl) T.z_min (by decide +kernel) (pa_cons (pe_int) (pa_cons (pe_callB (klen K) (by rfl) T.z_len PySem.boot_len (pa_cons (pv 0) (pa_nil))) (pa_nil)))) (pa_nil)))) (pa_nil))) (pg_name (i := 1) sc_law.nd rfl (by first | exact Or.inl rfl | exact Or.inr rfl))
        (pss_cons (ps_set (i := 2) sc_law.nd rfl (by first | exact Or.inl rfl | exact Or.inr rfl) (gc c__law_box (hr.mono (by decide)) takes0 (pa_cons (gc c__law_cell (hr.mono (by decide)) takes0 (pa_cons (pv 0) (pa_cons (pv 1) (pa_nil)))) (pa_nil))))
      (pss_cons (ps_set (i := 3) sc_law.nd rfl (by first | exact Or.inl rfl | exact Or.inr rfl) (pe_cmpR op_eq (gc c__law_take (hr.mono (by decide)) takes0 (pa_cons (pv 2) (pa_cons (pe_int) (pa_nil)))) (pe_int) (by first | exact nomark _ | rfl)))
      (pss_cons (ps_set (i := 4) sc_law.nd rfl (by first | exact Or.inl rfl | exact Or.inr rfl) (gk0 k_Frames (hr.mono (by decide)) takes0))
      (pss_cons (ps_set (i := 5) sc_law.nd rfl (by first | exact Or.inl rfl | exact Or.inr rfl) (gc0 c__law_model (hr.mono (by decide)) takes0))
      (pss_cons (ps_expr (gc c__law_deeds (hr.mono (by decide)) takes0 (pa_cons (pv 2) (pa_cons (pv 4) (pa_cons (pv 5) (pa_cons (gc c__law_take (hr.mono (by decide)) takes0 (pa_cons (pv 2) (pa_cons (pe_int) (pa_nil)))) (pa_nil)))))))
      (pss_cons (ps_if (pt_val (pv 3)) (pss_one (ps_expr (gc c__law_filled (hr.mono (by decide)) takes0 (pa_cons (pv 4) (pa_cons (pv 5) (pa_nil)))))) (pss_nil))
      (pss_cons (ps_set (i := 6) sc_law.nd rfl (by first | exact Or.inl rfl | exact Or.inr rfl) (gc c__law_state (hr.mono (by decide)) takes0 (pa_cons (pv 4) (pa_nil))))
      (pss_cons (ps_for (passes_of rfl) rfl (kiL K (gc c__law_things (hr.mono (by decide)) takes0 (pa_cons (pv 2) (pa_cons (pv 5) (pa_nil))))) (pg_name (i := 7) sc_law.nd rfl (by first | exact Or.inl rfl | exact Or.inr rfl))
        (pss_cons (ps_for (passes_of rfl) rfl (pi_range1 rfl T.z_range (pa_cons (pe_int) (pa_nil))) (pg_name (i := 8) sc_law.nd rfl (by first | exact Or.inl rfl | exact Or.inr rfl))
        (pss_cons (ps_set (i := 9) sc_law.nd rfl (by first | exact Or.inl rfl | exact Or.inr rfl) (gc c__law_due (hr.mono (by decide)) takes0 (pa_cons (pv 8) (pa_cons (pv 5) (pa_cons (pv 7) (pa_nil))))))
      (pss_cons (ps_if (PW.pt (pw_and (pt_cmpR (keqL K hr.r.units) (pv 9) (pe_lst (pa_cons (pe_str) (pa_nil))) (by first | exact nomark _ | rfl)) (pw_and1 (pt_cmpR op_lt (pv 8) (pe_int) (by first | exact nomark _ | rfl))))) (pss_one (ps_continue)) (pss_nil))
      (pss_cons (ps_set (i := 10) sc_law.nd rfl (by first | exact Or.inl rfl | exact Or.inr rfl) (gc c__law_caught (hr.mono (by decide)) takes0 (pa_cons (pv 8) (pa_cons (pv 4) (pa_cons (pv 7) (pa_nil))))))
      (pss_cons (ps_if (pt_cmpR op_ne (krepr K hr T.z_repr (pv 10)) (krepr K hr T.z_repr (pv 9)) (by first | exact nomark _ | rfl)) (pss_one (ps_ret (pe_bl))) (pss_nil))
      (pss_one (ps_if (pt_val (pe_callB (kisi K) (by rfl) T.z_isinstance (by decide +kernel) (pa_cons (pv 7) (pa_cons (pe_bltn (v := .ty "list") (by rfl) T.z_list (by decide +kernel) rfl) (pa_nil))))) (pss_cons (ps_expr (kbm K PySem.F.plainAttrs_list PySem.F.slot_list_append PySem.F.type_list_append mt_append (pv 7) (pa_cons (pe_str) (pa_nil))))
      (pss_cons (ps_if (pt_cmpR op_ne (krepr K hr T.z_repr (pv 10)) (krepr K hr T.z_repr (pv 9)) (by first | exact nomark _ | rfl)) (pss_one (ps_ret (pe_bl))) (pss_nil))
      (pss_one (ps_expr (kbm0 K PySem.F.plainAttrs_list PySem.F.slot_list_pop PySem.F.type_list_pop mt_pop (pv 7)))))) (pss_nil))))))))
      (pss_cons (ps_if (pt_cmpR op_ne (krepr K hr T.z_repr (gm m_stands (hr.mono (by decide)) takes0 (pv 4) (pa_cons (pv 7) (pa_nil)))) (krepr K hr T.z_repr (pe_cmpR (kin K) (pe_ix (kixL K) (gc c__law_due (hr.mono (by decide)) takes0 (pa_cons (pe_int) (pa_cons (pv 5) (pa_cons (pv 7) (pa_nil))))) (pe_int) (fun _ _ => rfl)) (pe_tup (pa_cons (pe_str) (pa_cons (pe_str) (pa_nil)))) (by first | exact nomark _ | rfl))) (by first | exact nomark _ | rfl)) (pss_one (ps_ret (pe_bl))) (pss_nil))
      (pss_one (ps_if (pt_cmpR op_ne (gc c__law_state (hr.mono (by decide)) takes0 (pa_cons (pv 4) (pa_nil))) (pv 6) (by first | exact nomark _ | rfl)) (pss_one (ps_ret (pe_bl))) (pss_nil))))))
      (pss_one (ps_if (pt_not (pt_val (gc c__law_goes_on (hr.mono (by decide)) takes0 (pa_cons (pv 2) (pa_cons (pv 4) (pa_cons (pv 5) (pa_nil))))))) (pss_one (ps_ret (pe_bl))) (pss_nil))))))))))))
      (pss_one (ps_ret (pe_bl))), ?_⟩
    refine ⟨_, rfl, a, _, rfl, .inl scr.sq, _, _, rfl, _, _, rfl, _, rfl, ?_, ?_, for_range (lo := 0) (n := _) (fun i σ H' => ∃ v1 v2 v3 v4 v5 v6 v7 v8 v9 v10, σ = [some (.ref a), v1, v2, v3, v4, v5, v6, v7, v8, v9, v10] ∧ Scr K H' a ns) ⟨_, _, _, _, _, _, _, _, _, _, rfl, scr⟩ ?_ ?_⟩
    · rw [List.length_map]; split <;> split <;> omega
    · rw [List.length_map]; split <;> split <;> omega
    · rintro i σ H7 hi ⟨v1, v2, v3, v4, v5, v6, v7, v8, v9, v10, rfl, s7⟩
      refine ⟨_, rfl, _, rfl, a, ns, i, by rw [Int.zero_add], s7.sq, fun z => ⟨z, rfl, fun b H8 hb k8 bx8 => ?_⟩⟩
      have K8 : Kp [] H7 H8 := fun c o e _ => k8.kp c o e (by simpa using ne_of_none e hb)
      refine ⟨_, rfl, b, 0, 3, rfl, bx8, by decide, by decide, by decide, fun H9 f k9 bx9 f0 f1 => ⟨rfl, ?_⟩⟩
      have K9 : Kp [] H7 H9 := K8.out k9.kp (by simpa using hb)
      refine fun p d0 hp0 hd0 nd0 => ⟨p, d0, rfl, upd_same, fun h t H10 hh0 ht0 nh0 nt0 k10 fr10 ep10 => ⟨rfl, rfl, fun m mh mt H11 hm hmh hmt k11 md11 => ?_⟩⟩
      have k910 : Kp [] H9 H10 := made_kp hp0 hd0 k10
      have K10 : Kp [] H7 H10 := K9.trans k910
      have K11 : Kp [] H7 H11 := K10.trans k11
      have fp : H7 p = none := K9.fr hp0
      have fh9 : H9 h = none := made_free hh0
      have ft9 : H9 t = none := made_free ht0
      have fh : H7 h = none := K9.fr fh9
      have ft : H7 t = none := K9.fr ft9
      have fm : H7 m = none := K10.fr hm
      have fmh : H7 mh = none := K10.fr hmh
      have fmt : H7 mt = none := K10.fr hmt
      have ff5 : ∀ c ∈ [b, h, t, mh, mt], H7 c = none := fun c hc => by
        simp only [List.mem_cons, List.not_mem_nil, or_false] at hc
        rcases hc with rfl | rfl | rfl | rfl | rfl <;> assumption
      have ff4 : ∀ c ∈ [h, t, mh, mt], H7 c = none := fun c hc => ff5 c (List.mem_cons_of_mem _ hc)
      have bx11 : BoxAt H11 b 1 := bx9.kp (k910.trans k11) (by simp)
      have pr11 : Pr (CF K) H11 p h t m mh mt [none] [none] := ⟨fr10.kp0 k11, md11, rfl, (fun i hi => by simp at hi), by
        have e1 := fr10.lh
        have e2 := fr10.lt
        have n1 := ne_of_none e1 hmh
        have n2 := ne_of_none e1 hmt
        have n3 := ne_of_none e2 hmh
        have n4 := ne_of_none e2 hmt
        have n5 := fr10.ne
        have n6 := md11.ne
        simp [n1, n2, n3, n4, n5, n6]⟩
      have nb : b ∉ [p, h, t, m, mh, mt] := fun hc => by
        obtain ⟨_, _, _, eb9, _⟩ := bx9
        have eb10 := k910 _ _ eb9 (by simp)
        simp only [List.mem_cons, List.not_mem_nil, or_false] at hc
        rcases hc with rfl | rfl | rfl | rfl | rfl | rfl
        · rw [hp0] at eb9; cases eb9
        · rw [fh9] at eb9; cases eb9
        · rw [ft9] at eb9; cases eb9
        · rw [hm] at eb10; cases eb10
        · rw [hmh] at eb10; cases eb10
        · rw [hmt] at eb10; cases eb10
      refine ⟨_, rfl, _, rfl, _, rfl, _, rfl, b, 1, 30, rfl, bx11, by decide, by decide, by decide, fun H12 many k12 bx12 m0 m1 => ?_⟩
      have K12 : Kp [] H7 H12 := K11.out k12.kp (by simpa using hb)
      have pr12 := pr11.kp k12.kp (by simpa using nb)
      refine ⟨b, p, h, t, m, mh, mt, [none], [none], 2, many, rfl, pr12, bx12, by omega, by omega, by omega, nb, fun H13 hs13 ts13 k13 pr13 bx13 => ?_⟩
      have K13 : Kp [] H7 H13 := K12.out k13 ff5
      refine ⟨_, rfl, _, rfl, fork (fun H' => ∃ hs ts, Kp [] H7 H' ∧ Pr (CF K) H' p h t m mh mt hs ts ∧ BoxAt H' b 202) ⟨hs13, ts13, K13, pr13, bx13.more (by omega)⟩ (fun go => ⟨_, rfl, _, rfl, p, h, t, m, mh, mt, hs13, ts13, rfl, pr13, fun H14 hs' ts' k14 pr14 => go H14 ⟨hs', ts', K13.out k14 ff4, pr14, (bx13.kp k14 (fun hc => nb (by simp only [List.mem_cons, List.not_mem_nil, or_false] at hc ⊢; grind))).more (by omega)⟩⟩) ?_⟩
      rintro H14 ⟨hs, ts, K14, pr14, bx14⟩
      have wf := pr14.f.wf
      have wl := wf.len
      have tk := pr14.tk
      refine ⟨_, rfl, p, h, t, hs, ts, rfl, pr14.f, tk, fun H15 k15 => ?_⟩
      have K15 := K14.trans k15
      have bx15 := bx14.kp k15 (by simp)
      have pr15 := pr14.kp0 k15
      refine ⟨_, rfl, _, rfl, b, m, mh, mt, hs, ts, 202, rfl, bx15, by decide, pr15.m, wf, (fun hc => nb (by simp only [List.mem_cons, List.not_mem_nil, or_false] at hc ⊢; grind)), fun l H16 xs hl k16 bx16 el hxs hth => ?_⟩
      have K16 : Kp [] H7 H16 := K15.out k16 (by simpa using hb)
      have pr16 := pr15.kp k16 (by simpa using nb)
      refine ⟨l, rfl, ⟨_, SqL.of el⟩, for_list (K := K) (a := l) (xs := xs) (fun j σ H' => ∃ w7 w8 w9 w10, σ = [some (.ref a), some (.int (0 + (i : Int))), some (.ref b), some (.bl (decide (V.int f = V.int 0))), some (.ref p), some (.ref m), some (.str (stD hs ts).shown), w7, w8, w9, w10] ∧ Kp [] H16 H') ⟨_, _, _, _, rfl, Kp.refl⟩ (fun i σ H' _ ⟨_, _, _, _, _, k⟩ => SqL.of (k _ _ el (by simp))) ?_ ?_⟩
      · rintro j v σ H17 hx ⟨w7, w8, w9, w10, rfl, k17⟩
        obtain ⟨dv, tg⟩ := hth v (List.mem_of_getElem? hx)
        have tg17 := tg.kp k17
        have pr17 := pr16.kp0 k17
        refine ⟨_, rfl, by decide, by decide, for_range (lo := 0) (n := _) (fun i2 σ H' => ∃ w8 w9 w10, σ = [some (.ref a), some (.int (0 + (i : Int))), some (.ref b), some (.bl (decide (V.int f = V.int 0))), some (.ref p), some (.ref m), some (.str (stD hs ts).shown), some v, w8, w9, w10] ∧ Kp [] H17 H') ⟨_, _, _, rfl, Kp.refl⟩ ?_ ?_⟩
        · rintro y σ H18 hy ⟨w8, w9, w10, rfl, k18⟩
          have hy6 : y < 6 := hy
          have tg18 := tg17.kp k18
          have pr18 := pr17.kp0 k18
          refine ⟨_, rfl, _, rfl, _, rfl, m, mh, mt, hs, ts, v, dv, _, rfl, pr18.m, wf, tg18, fun l1 H19 hl1 nl1 k19 el1 => ?_⟩
          refine ⟨_, rfl, (by show 1 ≤ sizeLine; decide), fun l2 hl2 => ?_⟩
          have k20 := (Kp.refl (S := []) (H := H19)).new (o := .lst [.str "told"]) hl2
          have el2 : upd H19 l2 (.lst [.str "told"]) l2 = some (.lst [.str "told"]) := upd_same
          generalize upd H19 l2 (.lst [.str "told"]) = H20 at *
          have el1' := k20 _ _ el1 (by simp)
          have kk20 := k19.trans k20
          rcases due_shape wf tk (0 + (y : Int)) v with s | s | s | s | ⟨z2, i2, ev, s, hi2⟩
          refine .inr ⟨_, _, .lst (SqL.of (by rw [← s]; exact el1')) (.cons (.str _) .nil), .lst (SqL.of el2) (.cons (.str _) .nil), by decide +kernel, by decide +kernel, _, rfl, ?_⟩
          rw [show PyData.eqv (.list [.str "told"]) (.list [.str "told"]) = true from by decide +kernel]
          refine iteT ⟨_, rfl, _, _, rfl, rfl, _, rfl, ite2 (fun c => ⟨_, _, _, rfl, k18.trans kk20⟩) (fun c => ?_)⟩
          have hd : dueV hs ts (0 + (y : Int)) v = [.str "told"] → (2 : Int) ≤ 0 + (y : Int) := fun _ => by
            have c2 : ¬ (0 + (y : Int) < 2) := by simpa using c
            omega
          rotate_left
          refine .inr ⟨_, _, .lst (SqL.of (by rw [← s]; exact el1')) (.cons (.str _) .nil), .lst (SqL.of el2) (.cons (.str _) .nil), by decide +kernel, by decide +kernel, _, rfl, ?_⟩
          rw [show PyData.eqv (.list [.str "ground"]) (.list [.str "told"]) = false from by decide +kernel]
          refine iteF (iteF ?_)
          have hd : dueV hs ts (0 + (y : Int)) v = [.str "told"] → (2 : Int) ≤ 0 + (y : Int) := fun z => by rw [s] at z; exact absurd z (by decide)
          rotate_left
          refine .inl ⟨l1, l2, _, _, rfl, rfl, SqL.of el1', SqL.of el2, (by rw [s]; simp), _, rfl, iteF (iteF ?_)⟩
          have hd : dueV hs ts (0 + (y : Int)) v = [.str "told"] → (2 : Int) ≤ 0 + (y : Int) := fun z => by rw [s] at z; simp at z
          rotate_left
          refine .inl ⟨l1, l2, _, _, rfl, rfl, SqL.of el1', SqL.of el2, (by rw [s]; simp), _, rfl, iteF (iteF ?_)⟩
          have hd : dueV hs ts (0 + (y : Int)) v = [.str "told"] → (2 : Int) ≤ 0 + (y : Int) := fun z => by rw [s] at z; simp at z
          rotate_left
          refine .inl ⟨l1, l2, _, _, rfl, rfl, SqL.of el1', SqL.of el2, (by rw [s]; simp), _, rfl, iteF (iteF ?_)⟩
          have hd : dueV hs ts (0 + (y : Int)) v = [.str "told"] → (2 : Int) ≤ 0 + (y : Int) := fun z => by rw [s] at z; simp at z
          rotate_left
          all_goals
            refine ⟨_, rfl, _, rfl, _, rfl, p, h, t, m, mh, mt, hs, ts, v, dv, _, rfl, pr18.kp0 kk20, tg18.kp kk20, by omega, by omega, hd, fun l3 H21 hl3 nl3 k21 el3 => ?_⟩
            have el1c := k21 _ _ el1' (by simp)
            have tg21 := tg18.kp (kk20.trans k21)
            have rd := tg21.rd (K := K)
            refine ⟨_, rfl, _, _, rfl, due_shw wf tk rd el3 nl3, _, rfl, _, _, rfl, due_shw wf tk rd el1c nl1, rfl, _, rfl, iteF_ne ?_⟩
            obtain ⟨tn, ht, hi⟩ := tg21.tyl K
            refine ⟨_, rfl, _, _, _, _, _, rfl, .ty _, ht, kit_ty hi, _, rfl, ?_⟩
            by_cases lv : lstV H21 v = true
            rotate_left
            · rw [Bool.not_eq_true] at lv
              rw [lv]
              exact iteF ⟨_, _, _, rfl, (k18.trans kk20).trans k21⟩
            rw [lv]
            obtain ⟨a0, ev2, ea, ed⟩ := tg21.isl lv
            subst ev2 ed
            refine iteT ⟨_, rfl, .inl ⟨rfl, _, SqL.of ea⟩, a0, _, _, rfl, rfl, ea, by decide, ?_⟩
            have kA : Kp [a0] H21 (upd H21 a0 (.lst ([.int 0] ++ [.str "more"]))) := fun b o e hb' => (upd_ne (by simpa using hb')).trans e
            have eA : upd H21 a0 (.lst ([.int 0] ++ [.str "more"])) a0 = some (.lst [.int 0, .str "more"]) := upd_same
            generalize upd H21 a0 (.lst ([.int 0] ++ [.str "more"])) = H22 at *
            have n1 : l1 ≠ a0 := fun c => by
              rw [c, ea] at el1c
              have z : HO.lst [.int 0] = .lst [.str "frame", .ref a0] := Option.some.inj el1c
              injection z with z
              simp at z
            have n3 : l3 ≠ a0 := fun c => by
              rw [c, ea] at el3
              have z : HO.lst [.int 0] = .lst [.str "frame", .ref a0] := Option.some.inj el3
              injection z with z
              simp at z
            have rd2 := rd_more (K := K) eA
            refine ⟨_, rfl, _, _, rfl, due_shw wf tk rd2 (kA _ _ el3 (by simpa using n3)) nl3, _, rfl, _, _, rfl, due_shw wf tk rd2 (kA _ _ el1c (by simpa using n1)) nl1, rfl, _, rfl, iteF_ne ?_⟩
            refine ⟨_, rfl, .inl ⟨rfl, _, SqL.of eA⟩, a0, _, _, rfl, rfl, eA, rfl, ?_⟩
            have kP : Kp [] H21 (upd H22 a0 (.lst [.int 0])) := fun b o e _ => by
              by_cases c : b = a0
              · rw [c, upd_same]; rw [c, ea] at e; exact e
              · exact (upd_ne c).trans (kA b o e (by simpa using c))
            exact ⟨_, _, _, rfl, (k18.trans kk20).trans (k21.trans kP)⟩
        · rintro σ H18 ⟨w8, w9, w10, rfl, k18⟩
          have tg18 := tg17.kp k18
          have pr18 := pr17.kp0 k18
          obtain ⟨dx, fs, ep, ff⟩ := pr18.f.ob
          refine ⟨_, rfl, p, dx, fs, rfl, ep, ff.no _ (by decide +kernel), _, rfl, p, h, t, hs, ts, v, rfl, pr18.f, tg18.sh, fun bb hbb => ?_⟩
          refine ⟨_, _, rfl, shw_at (.bl bb) rfl (by simp only [PyData.bulk]; omega) (by simp only [PyData.depth]; omega), _, rfl, _, rfl, m, mh, mt, hs, ts, v, dv, 0, rfl, pr18.m, wf, tg18, fun l1 H19 hl1 nl1 k19 el1 => ?_⟩
          obtain ⟨k0, rest, e0, hk0⟩ := due0 wf v
          have pr19 := pr18.kp0 k19
          rw [e0] at el1
          refine ⟨l1, _, _, _, rfl, rfl, SqL.of el1, (by show atI _ ((0 : Nat) : Int) = _; exact atI_nat rfl), ?_⟩
          refine ⟨(by show 2 ≤ sizeLine; decide), fun pt hpt => ?_⟩
          have k20 := (Kp.refl (S := []) (H := H19)).new (o := .tup [.str "told", .str "many"]) hpt
          have ept : upd H19 pt (.tup [.str "told", .str "many"]) pt = some (.tup [.str "told", .str "many"]) := upd_same
          generalize upd H19 pt (.tup [.str "told", .str "many"]) = H20 at *
          have eb : bb = inV (.str k0) [.str "told", .str "many"] := Bool.eq_iff_iff.mpr (hbb.trans hk0.symm)
          refine ⟨pt, _, rfl, .inr (SqT.of ept), rfl, by decide, ?_⟩
          rw [← eb]
          refine ⟨_, _, rfl, shw_at (.bl bb) rfl (by simp only [PyData.bulk]; omega) (by simp only [PyData.depth]; omega), rfl, _, rfl, iteF_ne ?_⟩
          refine ⟨_, rfl, p, h, t, hs, ts, rfl, (pr19.kp0 k20).f, tk, fun H21 k21 => ⟨_, rfl, rfl, _, rfl, iteF_ne ⟨_, _, _, _, rfl, ?_⟩⟩⟩
          exact (k17.trans k18).trans ((k19.trans k20).trans k21)
      · rintro σ H17 ⟨w7, w8, w9, w10, rfl, k17⟩
        refine ⟨_, rfl, _, rfl, _, rfl, b, p, h, t, m, mh, mt, hs, ts, 205, rfl, pr16.kp0 k17, bx16.kp k17 (by simp), by decide, nb, fun H18 k18 => ⟨_, rfl, iteF ⟨_, _, _, _, _, _, _, _, _, _, rfl, ?_⟩⟩⟩
        exact s7.kp0 ((K16.trans k17).out k18 ff5)
    · rintro σ H7 ⟨v1, v2, v3, v4, v5, v6, v7, v8, v9, v10, rfl, s7⟩
      exact q H7
end

end Lw
namespace Lw
open PySem PySem.Spec L2 FG
open PyProof.Rows hiding St
section
variable {P : Program} {w : World} {K : PySem.W.Frag} {mg : Str → Option Value} {base : Heap}
theorem law_ok (T : Tx K mg) {fd : FuncData} (F : Fun K "law" "law" s_law (He.ga K "law") fd) : FnG P w K mg base 7 (He.ga K "law") fd ["_law_script"] (spLaw K) := by
  have c_is_number : Cal P w K mg base 1 "is_number" spNumG := Cal.of T.g_is_number T.F_is_number (fun F => F.binds (ps := ["thing"]) fun _ _ _ _ _ _ us hl => match us, hl with | [_], _ => rfl) (ok_number T)
  have c_is_wholeG : Cal P w K mg base 2 "is_whole" spWholeG := Cal.of T.g_is_whole T.F_is_whole (fun F => F.binds (ps := ["thing", "low", "high"]) fun _ _ _ _ _ _ us hl => match us, hl with | [_, _, _], _ => rfl) fun F => ok_whole T F c_is_number
  have c_is_whole : Cal P w K mg base 2 "is_whole" spWhole := whole_of c_is_wholeG
  have k_Frames : Mak P w K mg base 1 "Frames" (CF K) (spFInit (CF K)) := Mak.of T.k_Frames T.g_Frames T.F_Frames___init__ (fun F => F.binds (ps := ["self"]) fun _ _ _ _ _ _ us hl => match us, hl with | [_], _ => rfl) (ok_finit T T.c_Frames T.n_Frames_holders T.n_Frames_takers)
  have b0 : Met P w K mg base 3 (CF K) "need_begun" (spBeg (CF K)) := Met.of T.c_Frames T.m_Frames_need_begun T.F_Frames_need_begun (fun F => F.binds (ps := ["self", "frame"]) fun _ _ _ _ _ _ us hl => match us, hl with | [_, _], _ => rfl) fun F => ok_begun_ T F c_is_whole (rai_NoFrame T)
  have bX : Met P w K mg base 3 (CF K) "need_begun" (spBegX K) := Met.of T.c_Frames T.m_Frames_need_begun T.F_Frames_need_begun (fun F => F.binds (ps := ["self", "frame"]) fun _ _ _ _ _ _ us hl => match us, hl with | [_, _], _ => rfl) fun F => ok_begunX T F c_is_wholeG (rai_NoFrame T)
  have bO : Met P w K mg base 3 (CF K) "need_begun" (orS (spBeg (CF K)) (spBegX K)) := Met.of T.c_Frames T.m_Frames_need_begun T.F_Frames_need_begun (fun F => F.binds (ps := ["self", "frame"]) fun _ _ _ _ _ _ us hl => match us, hl with | [_, _], _ => rfl) fun F => FnG.or (ok_begun_ T F c_is_whole (rai_NoFrame T)) (ok_begunX T F c_is_wholeG (rai_NoFrame T))
  have s0 : Met P w K mg base 4 (CF K) "need_standing" (spStd (CF K)) := Met.of T.c_Frames T.m_Frames_need_standing T.F_Frames_need_standing (fun F => F.binds (ps := ["self", "frame"]) fun _ _ _ _ _ _ us hl => match us, hl with | [_, _], _ => rfl) fun F => ok_std T F b0 (rai_Gone T)
  have sO : Met P w K mg base 4 (CF K) "need_standing" (orS (spStd (CF K)) (spStdX K)) := Met.of T.c_Frames T.m_Frames_need_standing T.F_Frames_need_standing (fun F => F.binds (ps := ["self", "frame"]) fun _ _ _ _ _ _ us hl => match us, hl with | [_, _], _ => rfl) fun F => FnG.or (ok_std T F b0 (rai_Gone T)) (ok_stdX T F bO (rai_Gone T))
  have o0 : Met P w K mg base 3 (CF K) "need_more" (spMore (CF K)) := Met.of T.c_Frames T.m_Frames_need_more T.F_Frames_need_more (fun F => F.binds (ps := ["self"]) fun _ _ _ _ _ _ us hl => match us, hl with | [_], _ => rfl) fun F => ok_more T F (rai_TooMany T)
  have oO : Met P w K mg base 3 (CF K) "need_more" (orS (spMore (CF K)) (spMoreX K)) := Met.of T.c_Frames T.m_Frames_need_more T.F_Frames_need_more (fun F => F.binds (ps := ["self"]) fun _ _ _ _ _ _ us hl => match us, hl with | [_], _ => rfl) fun F => FnG.or (ok_more T F (rai_TooMany T)) (ok_moreX T F (rai_TooMany T))
  have m_clear : Met P w K mg base 1 (CF K) "clear" spClear := Met.of T.c_Frames T.m_Frames_clear T.F_Frames_clear (fun F => F.binds (ps := ["self", "frame"]) fun _ _ _ _ _ _ us hl => match us, hl with | [_, _], _ => rfl) (ok_clear T)
  have m_begun : Met P w K mg base 1 (CF K) "begun" (spBegun (CF K)) := Met.of T.c_Frames T.m_Frames_begun T.F_Frames_begun (fun F => F.binds (ps := ["self"]) fun _ _ _ _ _ _ us hl => match us, hl with | [_], _ => rfl) (ok_nbegun T)
  have m_standing : Met P w K mg base 1 (CF K) "standing" (spStanding (CF K)) := Met.of T.c_Frames T.m_Frames_standing T.F_Frames_standing (fun F => F.binds (ps := ["self"]) fun _ _ _ _ _ _ us hl => match us, hl with | [_], _ => rfl) (ok_standing T)
  have m_row0 : Met P w K mg base 4 (CF K) "row" (spRow (CF K)) := Met.of T.c_Frames T.m_Frames_row T.F_Frames_row (fun F => F.binds (ps := ["self", "frame"]) fun _ _ _ _ _ _ us hl => match us, hl with | [_, _], _ => rfl) fun F => ok_row T F b0
  have m_row : Met P w K mg base 4 (CF K) "row" (orS (spRow (CF K)) (spBegX K)) := Met.of T.c_Frames T.m_Frames_row T.F_Frames_row (fun F => F.binds (ps := ["self", "frame"]) fun _ _ _ _ _ _ us hl => match us, hl with | [_, _], _ => rfl) fun F => FnG.or (ok_row T F b0) (ok_rowX T F bX)
  have m_within : Met P w K mg base 4 (CF K) "within" (orS (spWithin (CF K)) (spBegX K)) := Met.of T.c_Frames T.m_Frames_within T.F_Frames_within (fun F => F.binds (ps := ["self", "frame"]) fun _ _ _ _ _ _ us hl => match us, hl with | [_, _], _ => rfl) fun F => FnG.or (ok_within T F b0 m_standing) (ok_withinX T F bX m_standing)
  have m_inside : Met P w K mg base 4 (CF K) "inside" (orS (spInside (CF K)) (spBegX K)) := Met.of T.c_Frames T.m_Frames_inside T.F_Frames_inside (fun F => F.binds (ps := ["self", "frame"]) fun _ _ _ _ _ _ us hl => match us, hl with | [_, _], _ => rfl) fun F => FnG.or (ok_inside T F b0) (ok_insideX T F bX)
  have m_ended_by : Met P w K mg base 4 (CF K) "ended_by" (orS (spBy (CF K)) (spBegX K)) := Met.of T.c_Frames T.m_Frames_ended_by T.F_Frames_ended_by (fun F => F.binds (ps := ["self", "frame"]) fun _ _ _ _ _ _ us hl => match us, hl with | [_, _], _ => rfl) fun F => FnG.or (ok_by T F b0) (ok_byX T F bX)
  have m_stands : Met P w K mg base 3 (CF K) "stands" (spStandsT K) := Met.of T.c_Frames T.m_Frames_stands T.F_Frames_stands (fun F => F.binds (ps := ["self", "thing"]) fun _ _ _ _ _ _ us hl => match us, hl with | [_, _], _ => rfl) fun F => ok_standsT T F c_is_wholeG
  have m_begin : Met P w K mg base 5 (CF K) "begin" (orS (spBegin (CF K)) (spBeginX K)) := Met.of T.c_Frames T.m_Frames_begin T.F_Frames_begin (fun F => F.binds (ps := ["self", "frame"]) fun _ _ _ _ _ _ us hl => match us, hl with | [_, _], _ => rfl) fun F => FnG.or (ok_begin T F s0 o0) (ok_beginX T F sO oO)
  have m_finish : Met P w K mg base 5 (CF K) "finish" (orS (spFin (CF K)) (spFinX K)) := Met.of T.c_Frames T.m_Frames_finish T.F_Frames_finish (fun F => F.binds (ps := ["self", "frame"]) fun _ _ _ _ _ _ us hl => match us, hl with | [_, _], _ => rfl) fun F => FnG.or (ok_finish T F s0 m_standing m_row0 m_clear) (ok_finX T F sO m_standing m_row0 m_clear)
  have c__law_cell : Cal P w K mg base 1 "_law_cell" (spCell K) := Cal.of T.g__law_cell T.F__law_cell (fun F => F.binds (ps := ["_law_script", "_law_k"]) fun _ _ _ _ _ _ us hl => match us, hl with | [_, _], _ => rfl) (ok_cell T)
  have c__law_box : Cal P w K mg base 1 "_law_box" spBox := Cal.of T.g__law_box T.F__law_box (fun F => F.binds (ps := ["_law_cell_here"]) fun _ _ _ _ _ _ us hl => match us, hl with | [_], _ => rfl) (ok_box T)
  have c__law_take : Cal P w K mg base 1 "_law_take" spTake := Cal.of T.g__law_take T.F__law_take (fun F => F.binds (ps := ["_law_box_here", "_law_many"]) fun _ _ _ _ _ _ us hl => match us, hl with | [_, _], _ => rfl) (ok_take T)
  have c__law_model : Cal P w K mg base 1 "_law_model" spModel := Cal.of T.g__law_model T.F__law_model (fun F => F.binds (ps := []) fun _ _ _ _ _ _ us hl => match us, hl with | [], _ => rfl) (ok_model T)
  have c__law_standing : Cal P w K mg base 1 "_law_standing" spLStanding := Cal.of T.g__law_standing T.F__law_standing (fun F => F.binds (ps := ["_law_model_here"]) fun _ _ _ _ _ _ us hl => match us, hl with | [_], _ => rfl) (ok_lstanding T)
  have c__law_row : Cal P w K mg base 1 "_law_row" spLRow := Cal.of T.g__law_row T.F__law_row (fun F => F.binds (ps := ["_law_model_here", "_law_frame"]) fun _ _ _ _ _ _ us hl => match us, hl with | [_, _], _ => rfl) (ok_lrow T)
  have c__law_begin : Cal P w K mg base 1 "_law_begin" spLBegin := Cal.of T.g__law_begin T.F__law_begin (fun F => F.binds (ps := ["_law_model_here", "_law_frame"]) fun _ _ _ _ _ _ us hl => match us, hl with | [_, _], _ => rfl) (ok_lbegin T)
  have c__law_finish : Cal P w K mg base 2 "_law_finish" spLFin := Cal.of T.g__law_finish T.F__law_finish (fun F => F.binds (ps := ["_law_model_here", "_law_frame"]) fun _ _ _ _ _ _ us hl => match us, hl with | [_, _], _ => rfl) fun F => ok_lfinish T F c__law_standing c__law_row
  have c__law_one : Cal P w K mg base 2 "_law_one" spOne := Cal.of T.g__law_one T.F__law_one (fun F => F.binds (ps := ["_law_box_here", "_law_some"]) fun _ _ _ _ _ _ us hl => match us, hl with | [_, _], _ => rfl) fun F => ok_one T F c__law_take
  have c__law_kinds : CalX P w K mg base 1 "_law_kinds" (spKinds K) := CalX.of T.g__law_kinds T.F__law_kinds (fun F => F.binds (ps := ["_law_e"]) fun _ _ _ _ _ _ us hl => match us, hl with | [_], _ => rfl) (ok_kinds T)
  have c__law_caught : Cal P w K mg base 6 "_law_caught" (spCaught K) := Cal.of T.g__law_caught T.F__law_caught (fun F => F.binds (ps := ["_law_way", "_law_frames", "_law_thing"]) fun _ _ _ _ _ _ us hl => match us, hl with | [_, _, _], _ => rfl) fun F => ok_caught T F c__law_kinds m_begin m_finish m_inside m_row m_within m_ended_by
  have c__law_due : Cal P w K mg base 1 "_law_due" spDue := Cal.of T.g__law_due T.F__law_due (fun F => F.binds (ps := ["_law_way", "_law_model_here", "_law_thing"]) fun _ _ _ _ _ _ us hl => match us, hl with | [_, _, _], _ => rfl) (ok_due T)
  have c__law_things : Cal P w K mg base 2 "_law_things" spThings := Cal.of T.g__law_things T.F__law_things (fun F => F.binds (ps := ["_law_box_here", "_law_model_here"]) fun _ _ _ _ _ _ us hl => match us, hl with | [_, _], _ => rfl) fun F => ok_things T F c__law_take
  have c__law_deeds : Cal P w K mg base 6 "_law_deeds" (spDeeds K) := Cal.of T.g__law_deeds T.F__law_deeds (fun F => F.binds (ps := ["_law_box_here", "_law_frames", "_law_model_here", "_law_many"]) fun _ _ _ _ _ _ us hl => match us, hl with | [_, _, _, _], _ => rfl) fun F => ok_deeds T F c__law_take c__law_one c__law_standing c__law_finish c__law_begin m_finish m_begin
  have c__law_filled : Cal P w K mg base 6 "_law_filled" (spFilled K) := Cal.of T.g__law_filled T.F__law_filled (fun F => F.binds (ps := ["_law_frames", "_law_model_here"]) fun _ _ _ _ _ _ us hl => match us, hl with | [_, _], _ => rfl) fun F => ok_filled T F c__law_begin m_begin
  have c__law_state : Cal P w K mg base 6 "_law_state" (spState K) := Cal.of T.g__law_state T.F__law_state (fun F => F.binds (ps := ["_law_frames"]) fun _ _ _ _ _ _ us hl => match us, hl with | [_], _ => rfl) fun F => ok_state T F m_begun m_standing m_inside m_row m_within m_ended_by
  have c__law_goes_on : Cal P w K mg base 6 "_law_goes_on" (spGoes K) := Cal.of T.g__law_goes_on T.F__law_goes_on (fun F => F.binds (ps := ["_law_box_here", "_law_frames", "_law_model_here"]) fun _ _ _ _ _ _ us hl => match us, hl with | [_, _, _], _ => rfl) fun F => ok_goes T F c__law_one c__law_standing c__law_finish c__law_begin m_begun m_inside m_ended_by m_finish m_begin
  exact ok_law T F k_Frames c__law_model c__law_cell c__law_box c__law_take c__law_deeds c__law_filled c__law_state c__law_things c__law_due c__law_caught m_stands c__law_goes_on
end

end Lw
open PySem PySem.W PySem.Calls PyProof.Rows
set_option maxHeartbeats 0 in
theorem PySem.Challenge.cw_framerooms_k07_frames_refused_holds : PySem.Challenge.rw_framerooms_k07_frames_refused.Holds := by
  w_on; o_law
  refine HandSHeadRun.head_any (r := OpenLaw.row PySem.Challenge.rw_framerooms_k07_frames_refused) (q := view (OpenLaw.row PySem.Challenge.rw_framerooms_k07_frames_refused).prog [30]) (H := Lw.hk) (ob := Lw.ob) (M := 6000) (loose := Lw.names0 ++ Lw.names1) (d := HandSHeadRun.topDef (OpenLaw.row PySem.Challenge.rw_framerooms_k07_frames_refused).prog 30) (kwd := []) Lw.ob_eq
    (by kernel_rfl) (fun s => by kernel_rfl) Lw.run (by kernel_rfl) (by kernel_rfl) (by kernel_rfl) (by rfl) (by first | assumption | decide +kernel) (by decide +kernel) ⟨rfl, rfl, rfl, rfl, rfl, by decide +kernel⟩ ?hw ?hc
  case hw => w_witness2
  case hc =>
    refine FG.walk_G (l := PySem.Challenge.rw_framerooms_k07_frames_refused) (n := 63) (k := 7) (x := "_law_script") rfl (by decide) (by kernel_rfl) ⟨rfl, by decide, by decide⟩ ?F
    intro w mg fa h Y G hmg0
    obtain ⟨K, KX, c⟩ := Y
    have hmg : mg ("law" : PySem.Str) = some (.ref fa) := by
      have e : (HandSHeadRun.topDef (OpenLaw.row PySem.Challenge.rw_framerooms_k07_frames_refused).prog 30).name = ("law" : PySem.Str) := by kernel_rfl
      rw [← e]
      exact hmg0
    have T : Lw.Tx K mg := Lw.tx_of KX G c.1 c.2
    have e := hmg.symm.trans T.g_law
    cases e
    obtain ⟨fd, F⟩ := T.F_law
    have b := F.binds (ps := ["_law_script"]) fun _ _ _ _ _ _ us hl => match us, hl with | [_], _ => rfl
    refine ⟨K, fd, Lw.spLaw K, KX, fun s u => ?_, fun H a ns hl bits hO hS => ⟨a, ns, rfl, hl, Lw.Scr.of hO hS, fun _ => rfl⟩, fun base _ _ => Lw.law_ok T F⟩
    have F2 := F
    obtain ⟨oc, od, kV, doc, pm, an, cdv, ct, osl, rfl, lk, hcd⟩ := F2.ex
    exact BindsTo.of_eq rfl
