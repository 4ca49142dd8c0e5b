import PyProof.Rows.All
import Wide.All
import OpenK.AllK
import Wide.FinOn
import HandS.ForMost
import HandS.Exc
import HandS.ExcOwn
import HandS.WordsExc
import HandS.CallSlots
import HandS.TryOnly
import HandS.TryMany
import HandS.Gcd
import HandS.ExcInit
import HandS.IsInst
import HandS.Defaults
import HandS.MakeKw
import HandS.Wide
import HandS.HotCalls
import HandS.ExcIs
import HandS.ExcField
import HandS.Flow
import HandS.Style
import HandS.Head0
import HandS.Head1
import HandS.Head2
import HandS.Head3
import HandS.HeadEnd
import HandS.HeadHook1
import HandS.HeadHook2
import KE.KExcIs
import HandS.Walk
import KE.KMathGC
import KE.GoesEnum
import HandS.HeadNt
import HandS.WideBits
import Flt.RightSqrt
import PySem.Challenge.RW_belownought_k63_exchanged_shares
set_option Elab.async false
set_option linter.all false
set_option maxRecDepth 100000
set_option maxHeartbeats 4000000
/-! my own layer over the hand layer: calls by name, own operators, readings step by step -/
namespace Z
open PySem PySem.Spec PyProof.Rows L2
/-! ### callables -/
section
variable (P : Program) (w : World) (K : PySem.W.Frag) (mg : Str → Option Value) (base : Heap)
/-- a def of the module under its name, the defaults dvs filling up -/
structure Cal (k : Nat) (x : Str) (sp : Sp) (dvs : List V) : Prop where
  ex : ∃ (f : Addr) (fd : FuncData) (ps : List Str) (ds : List Value), FnOk P w K mg base (L2N.CX P w) k f fd ps sp ∧ mg x = some (.ref f) ∧ PySem.W.keepIn K (.ref f) = true ∧ Binds K fd ps ds ∧ Vals dvs ds
/-- .. called with keywords ks behind n values -/
structure CalK (k : Nat) (x : Str) (sp : Sp) (n : Nat) (ks : List Str) (gV : List V → List V → List V) : Prop where
  ex : ∃ (f : Addr) (fd : FuncData) (ps : List Str) (g : List Value → List Value → List Value), FnOk P w K mg base (L2N.CX P w) k f fd ps sp ∧ mg x = some (.ref f) ∧ PySem.W.keepIn K (.ref f) = true ∧ KBn K fd ps n ks g gV
/-- .. within an except suite -/
structure CalH (k : Nat) (x : Str) (sp : Sp) : Prop where
  ex : ∃ (f : Addr) (fd : FuncData) (ps : List Str), L2H.FnH P w K mg base (L2N.CX P w) k f fd ps sp ∧ mg x = some (.ref f) ∧ PySem.W.keepIn K (.ref f) = true ∧ Binds K fd ps []
/-- a method -/
structure Met (k : Nat) (C : Addr) (m : Str) (sp : Sp) (dvs : List V) : Prop where
  ex : ∃ (f : Addr) (fd : FuncData) (ps : List Str) (ds : List Value), Cls K C ∧ Meth K C m f ∧ FnOk P w K mg base (L2N.CX P w) k f fd ps sp ∧ Binds K fd ps ds ∧ Vals dvs ds
/-- a class made by its name -/
structure Mak (k : Nat) (x : Str) (C : Addr) (sp : Sp) (dvs : List V) : Prop where
  ex : ∃ (f : Addr) (fd : FuncData) (ps : List Str) (ds : List Value), Mk K C f ∧ FnOk P w K mg base (L2N.CX P w) k f fd ps sp ∧ mg x = some (.ref C) ∧ Binds K fd ps ds ∧ Vals dvs ds
/-- an exception class made by its name, its own __init__ keeping sp -/
structure MakX (k : Nat) (x : Str) (C : Addr) (sp : Sp) : Prop where
  ex : ∃ (f : Addr) (fd : FuncData) (ps : List Str), OexC K C ∧ PySem.W.findIn K (.ref C) "__init__" = some (some (.ref f)) ∧ PySem.W.typeIn K (.ref f) = some (.type "function") ∧ FnOk P w K mg base (L2N.CX P w) k f fd ps sp ∧ mg x = some (.ref C) ∧ Binds K fd ps []
end
/-- what a call lets out, wished for by W -/
def tCallW (sp : Sp) (dvs : List V) (W : WX) (t : TA) : TE := fun σ H Q => t σ H fun vs H1 => sp (vs ++ dvs) H1 Q (fun cls d H' => W cls d σ H')
def tMethW (C : Addr) (m : Str) (sp : Sp) (dvs : List V) (W : WX) (ta : TE) (t : TA) : TE := fun σ H Q => ta σ H fun x H1 => ∃ a dx fs, x = .ref a ∧ H1 a = some (.ins C dx fs) ∧ fs.lookup m = none ∧
  t σ H1 fun vs H2 => sp (x :: (vs ++ dvs)) H2 Q (fun cls d H' => W cls d σ H')
def tMakeW (C : Addr) (sp : Sp) (dvs : List V) (W : WX) (t : TA) : TE := fun σ H Q => t σ H fun vs H1 => ∀ x dx, H1 x = none → H1 dx = none → dx ≠ x →
  sp (.ref x :: (vs ++ dvs)) (upd (upd H1 dx (.own x)) x (.ins C dx [])) (fun v H2 => v = .non ∧ Q (.ref x) H2) (fun cls d H' => W cls d σ H')
section
variable {X : Cx} {k j : Nat} {f C : Addr} {fd : FuncData} {ps : List Str} {sp : Sp} {dvs : List V} {ds : List Value} {W : WX} {x m : Str} {p pos apos : Pos} {e o : Expr} {es : List Expr} {ta : TE} {t : TA}
theorem passW (tk : L2N.Takes X W) (σ : L2.St) : PassesAt (L2N.CX X.prog X.w) X σ (fun cls d H => W cls d σ H) := L2N.passAt tk σ
theorem pe_c (c : Cal X.prog X.w X.K X.mg X.base k x sp dvs) (hr : Room j X.A) (hk : k ≤ j) (tk : L2N.Takes X W) (ha : PA X (e :: es) t) (hg : Gl X x := by rfl)
    (hdb : (x == ("__debug__" : Str)) = false := by decide) (he : starEach (e :: es) X.env = (false, eval e X.env) :: starEach es X.env := by rfl) (hpl : (backTo pos (starEach es X.env)).any (·.1) = false := by rfl) :
    PE X (.Call (.Name x p) (e :: es) [] pos) (tCallW sp dvs W t) := by
  obtain ⟨f, fd, ps, ds, F, hm, kp, b, d⟩ := c.ex
  exact pe_callSD (E := fun σ cls d H => W cls d σ H) F (hr.mono hk) hg hm kp b d (passW tk) ha hdb he hpl
/-- .. keywords alone -/
theorem pe_ck0 {ks : List Str} {gV : List V → List V → List V} {E : XK} {kw : Keyword} {kws : List Keyword} {tw : TA} (c : CalK X.prog X.w X.K X.mg X.base k x sp 0 ks gV) (hr : Room j X.A) (hk : k ≤ j) (hx : Passes (L2N.CX X.prog X.w) X E) (hkw : PK X (kw :: kws) tw) (hg : Gl X x := by rfl)
    (hall : (backToKw pos (keywordEach (kw :: kws) X.env)).all (·.1.isSome) = true := by rfl) (hks : (backToKw pos (keywordEach (kw :: kws) X.env)).filterMap (·.1) = ks := by rfl)
    (hdb : (x == ("__debug__" : Str)) = false := by decide)
    (hpl : ((backTo pos (starEach [] X.env)).any (·.1) || (backToKw pos (keywordEach (kw :: kws) X.env)).any (·.1.isNone)) = false := by rfl) :
    PE X (.Call (.Name x p) [] (kw :: kws) pos) (tCallN 0 ks.length sp gV E tNil tw) := by
  obtain ⟨f, fd, ps, g, F, hm, kp, b⟩ := c.ex
  refine ⟨fun pi s0 sl H0 Q0 J0 h0 => ?_⟩
  have J := J0
  refine wpAny_Call_Name_kw (ld_glob J hg hm ?_ hdb)
  refine PySem.W.callWith_KW0 (h₀ := X.base) J.ok.mod.kin kp hall ?_ hpl
  refine thn (hkw.run pos pi s0 sl H0 _ J h0) fun ws s2 ⟨zs, H2, J2, rz, _, l2, q2⟩ => ⟨J2.kIn, ?_⟩
  rw [hks]
  exact run_fnN (vs := []) F (hr.mono hk) b hx J2 .nil rz rfl l2 q2
/-- making an instance, the wish at the slots -/
theorem run_mkS {pi : List (Addr × Obj)} {sl : L2.St} {H0 : Hp} {s0 : Shared} {Q0 : VK} {us : List Value} {xs : List V} {E0 : XK} (M : Mk X.K C f) (F : FnOk X.prog X.w X.K X.mg X.base (L2N.CX X.prog X.w) k f fd ps sp) (hr : Room (k + 1) X.A) (hb : Binds X.K fd ps ds) (hd : Vals dvs ds)
    (hx : PassesAt (L2N.CX X.prog X.w) X sl E0) (J : Inv X pi sl H0 s0) (r : Vals xs us)
    (h : ∀ y dy, H0 y = none → H0 dy = none → dy ≠ y → sp (.ref y :: (xs ++ dvs)) (upd (upd H0 dy (.own y)) y (.ins C dy [])) (fun v H2 => v = .non ∧ Q0 (.ref y) H2) E0) :
    wpAny (model X.prog X.w) X.A (call (.ref C) us) (EP X pi sl Q0) X.xe s0 := by
  have g1 := J.hok.fresh (Nat.le_succ s0.heap.objs.size)
  have g2 := J.hok.fresh (Nat.le_refl s0.heap.objs.size)
  have asked := h _ _ g1 g2 (Nat.ne_of_lt (Nat.lt_succ_self _))
  have J2 := Inv.made (C := C) J
  have rs : Vals (V.ref (s0.heap.objs.size + 1) :: (xs ++ dvs)) (Value.ref (s0.heap.objs.size + 1) :: (us ++ ds)) := .cons rfl (r.append hd)
  have sz : (Value.ref (s0.heap.objs.size + 1) :: us ++ ds).length = ps.length := rs.length.symm.trans (F.len _ _ _ _ asked)
  have bd := hb _ (Value.ref (s0.heap.objs.size + 1) :: us) J2.kIn sz
  have run := F.run (X.A.under (.builtin "type.__call__" ⟨.ref C :: us, []⟩)) X.stack _ _ ⟨Value.ref (s0.heap.objs.size + 1) :: us, []⟩ _ _ _ _ (hr.make C us []) (J2.env0.make C us []) bd rs asked
  refine wpAny_call (make_map (f := f) J.kIn M.makes M.init (beq_iff_eq.mp M.fn) (codeAny_mono run fun fin s1 hq => ?_))
  match fin, hq with
  | .error er, hq => exact hx pi _ _ er s1 J2 hq
  | .ok (.ret u), hq =>
    obtain ⟨v, H3, J3, rv, ev, q3⟩ := J2.after hq
    subst ev
    exact ⟨rv, ⟨V.ref (s0.heap.objs.size + 1), H3, J3, rfl, q3⟩⟩
theorem pe_mk (c : Mak X.prog X.w X.K X.mg X.base k x C sp dvs) (hr : Room j X.A) (hk : k + 1 ≤ j) (tk : L2N.Takes X W) (ha : PA X (e :: es) t) (hg : Gl X x := by rfl)
    (hdb : (x == ("__debug__" : Str)) = false := by decide) (he : starEach (e :: es) X.env = (false, eval e X.env) :: starEach es X.env := by rfl) (hpl : (backTo pos (starEach es X.env)).any (·.1) = false := by rfl) :
    PE X (.Call (.Name x p) (e :: es) [] pos) (tMakeW C sp dvs W t) := by
  obtain ⟨f, fd, ps, ds, M, F, hm, b, d⟩ := c.ex
  refine ⟨fun pi s0 sl H0 Q0 J h0 => ?_⟩
  refine wpAny_Call_Name_kw (ld_glob J hg hm ?_ hdb)
  refine PySem.W.callWith_K (h₀ := X.base) J.ok.mod.kin M.kp (thn (ha.run pos pi s0 sl H0 _ J h0) fun us s1 ⟨xs, H1, J1, r, q⟩ => ⟨J1.kIn, ?_⟩) he hpl
  exact run_mkS M F (hr.mono hk) b d (passW tk sl) J1 r q
theorem pe_mt0 {pl : Sem Bool} (c : Met X.prog X.w X.K X.mg X.base k C m sp dvs) (hr : Room j X.A) (hk : k ≤ j) (tk : L2N.Takes X W) (ho : PE X o ta)
    (ht : eval (.Call (.Attribute o m apos) [] [] pos) X.env = (do
      let ov ← eval o X.env; standAt apos.atName
      let (f, first) ← holding [ov] (getMethod ov m pl); callWith pos f first (backTo pos (starEach [] X.env)) (backToKw pos (keywordEach [] X.env))) := by rfl) :
    PE X (.Call (.Attribute o m apos) [] [] pos) (tMethW C m sp dvs W ta tNil) := by
  obtain ⟨f, fd, ps, ds, hc, hm, F, b, d⟩ := c.ex
  refine ⟨fun pi s0 sl H0 Q0 J h0 => ?_⟩
  refine PySem.W.methodCall_KW (pl := pl) (thn (ho.run pi s0 sl H0 _ J h0) fun u s1 ⟨y, H1, J1, ry, a, dy, fs, ey, ea, l, q⟩ => ?_) ht
  subst ey
  obtain rfl : u = Value.ref a := ry
  refine getmeth_ok J1 ea hc hm l ?_
  exact PySem.W.callWith_K0 (first := [.ref a]) J1.kIn hm.kp (run_fnSD (us := [.ref a]) (vs := [.ref a]) (E := fun σ cls d H => W cls d σ H) F (hr.mono hk) b d (passW tk sl) J1 (.cons rfl .nil) q)
end
end Z
set_option maxHeartbeats 4000000
/-! own exceptions made, own operators, unions of rules, the readings' steps -/
namespace Z
open PySem PySem.Spec PyProof.Rows L2
section
variable {X : Cx} {k j : Nat} {C : Addr} {sp : Sp} {W : WX} {x : Str} {p pos : Pos} {e : Expr} {es : List Expr} {t : TA}
/-- X(), X an own exception class without an __init__ of the text -/
theorem pmk_x0 {bmB : List Value} {B newId initId : String} (F : ExcBaseFacts B newId initId bmB) (q : PySem.W.excIn X.K C bmB newId = true) (gC : X.mg x = some (.ref C)) (kC : PySem.W.keepIn X.K (.ref C) = true) (r : Raises X (.ref C)) (hg : Gl X x := by rfl)
    (hdb : (x == ("__debug__" : Str)) = false := by decide) : L2N.PMk X (.Call (.Name x p) [] [] pos) (fun _ H Q => Q (.ref C) none H) := by
  intro pi s0 sl H0 Q0 J h0
  refine wpAny_Call_Name_kw (ld_glob J hg gC ?_ hdb)
  refine PySem.W.callWith_K0 J.kIn kC ?_
  show wpAny _ _ (call (.ref C) []) _ _ _
  obtain ⟨bm, N, nm, qn, bs, hdct, sn, sub, ab, col, dd, k0, k1, k2, k3, k5, mN, hC, hN, hni, T⟩ := exc_obj J.kIn q
  refine wpAny_call_exc_subT F T hC hN hni (fun h1 e1 hm => ?_) (Nat.zero_le _)
  exact L2N.mk_of J hm r h0 (J.hok.gone hm.new)
/-- C(..), C's own __init__ keeping sp: what is left is an exception without a context -/
theorem run_exc {fI : Addr} {fd : FuncData} {ps : List Str} {pi : List (Addr × Obj)} {sl : L2.St} {H1 : Hp} {s1 : Shared} {Q0 : XK} {us : List Value} {xs : List V} (T : OexC X.K C) (iC : PySem.W.findIn X.K (.ref C) "__init__" = some (some (.ref fI)))
    (tI : PySem.W.typeIn X.K (.ref fI) = some (.type "function")) (F1 : FnOk X.prog X.w X.K X.mg X.base (L2N.CX X.prog X.w) k fI fd ps sp) (hr : Room (k + 1) X.A) (hb : Binds X.K fd ps []) (hx : Passes (L2N.CX X.prog X.w) X (fun _ _ _ => False)) (J1 : Inv X pi sl H1 s1) (r1 : Vals xs us) (hz : xs.length ≤ 1000)
    (q1 : ∀ a, H1 a = none → sp (.ref a :: (xs ++ [])) (upd H1 a (exo a C none)) (fun v H2 => v = .non ∧ ∃ (d : Addr) (fs : List (Str × V)), H2 a = some (exo a C (some d)) ∧ H2 d = some (exd d fs) ∧ H1 d = none ∧ Q0 (.ref C) (some d) (upd (del H2 a) d (.xd fs))) (fun _ _ _ => False)) :
    wpAny (model X.prog X.w) X.A (call (.ref C) us) (L2N.MkP X pi sl Q0) X.xe s1 := by
  obtain ⟨nm, q, N, bs, bm, sn, sub, ab, col, dd, k0, k1, k2, k3, k5, hC, hbm⟩ := T.cls
  obtain ⟨hp, g, dr, tk, os⟩ := s1
  have sz0 := Nat.le_succ hp.objs.size
  have nw : H1 (hp.objs.size + 1) = none := J1.hok.fresh sz0
  have asked := q1 _ nw
  have old : ∀ b o, hp.get? b = some o → ((hp.push (PySem.W.kdv_tup us)).push (PySem.HandSPX.excO C hp.objs.size)).get? b = some o := fun b o e1 => Heap.get?_push_of_some _ (Heap.get?_push_of_some _ e1)
  have at_new : ((hp.push (PySem.W.kdv_tup us)).push (PySem.HandSPX.excO C hp.objs.size)).get? (hp.objs.size + 1) = some (PySem.HandSPX.excO C hp.objs.size) := by heap_get
  have J2 := J1.laid (t' := tk) (a := hp.objs.size + 1) (o := exo (hp.objs.size + 1) C none) old sz0 (exo_ok at_new)
  have r2 : Vals (V.ref (hp.objs.size + 1) :: (xs ++ [])) (Value.ref (hp.objs.size + 1) :: (us ++ [])) := .cons rfl (r1.append .nil)
  have szl : (Value.ref (hp.objs.size + 1) :: us ++ []).length = ps.length := r2.length.symm.trans (F1.len _ _ _ _ asked)
  have szu : us.length ≤ sizeLine := by rw [← Paired.length r1, sizeLine_eq]; omega
  have bd := hb _ (Value.ref (hp.objs.size + 1) :: us) J2.kIn szl
  have run := F1.run (X.A.under (.builtin "type.__call__" ⟨.ref C :: us, []⟩)) X.stack _ _ ⟨Value.ref (hp.objs.size + 1) :: us, []⟩ _ _ _ (fun _ _ _ => False) (hr.make C us []) (J2.env0.make C us []) bd r2 asked
  have looks := PySem.W.looks_findIn (M := model X.prog X.w) J1.kIn iC
  refine wpAny_call (PySem.HandSPX.call_own PySem.F.excBase_ValueError (fun Y => PySem.HandSPX.refsVE_contains Y bm hbm) (J1.kIn _ _ hC) looks (fun self => PySem.W.bind_fn J1.kIn self tI) szu (codeAny_mono run fun fin s3 hq => ?_))
  match fin, hq with
  | .error er, hq => exact hx pi sl _ _ er s3 J2 hq
  | .ok (.ret u), hq =>
    obtain ⟨v, H2, os2, bare2, un2, hok2, rv, ev, d, fs, ea, ed, hd1, q2⟩ := hq
    subst ev
    obtain ⟨h2, g2, d2, t2, os'⟩ := s3
    obtain ⟨t0, G, J3, kG, ge, hoe, na⟩ := mk_end0 (d2 := d2) (t2 := t2) J1 sz0 old un2 hok2 os2 bare2 ea ed hd1
    exact ⟨rv, _, _, _, ⟨G, g2, d2, t2, os'⟩, _, .ref C, some d, rfl, J3, kG, ge, hoe, ⟨rfl, rfl, fun vs ev => by cases ev; rfl⟩, rfl, rfl, na, rfl, bare2, raises_own T.exC T.tyC, q2⟩
theorem pmk_x (c : MakX X.prog X.w X.K X.mg X.base k x C sp) (hr : Room j X.A) (hk : k + 1 ≤ j) (hx : Passes (L2N.CX X.prog X.w) X (fun _ _ _ => False)) (ha : PA X (e :: es) t) (hg : Gl X x := by rfl)
    (hdb : (x == ("__debug__" : Str)) = false := by decide) (he : starEach (e :: es) X.env = (false, eval e X.env) :: starEach es X.env := by rfl) (hpl : (backTo pos (starEach es X.env)).any (·.1) = false := by rfl) :
    L2N.PMk X (.Call (.Name x p) (e :: es) [] pos) (tMkO C sp [] t) := by
  obtain ⟨f, fd, ps, T, iC, tI, F, hm, b⟩ := c.ex
  intro pi s0 sl H0 Q0 J h0
  refine wpAny_Call_Name_kw (ld_glob J hg hm ?_ hdb)
  refine PySem.W.callWith_K (h₀ := X.base) J.ok.mod.kin T.kC (thn (ha.run pos pi s0 sl H0 _ J h0) fun us s1 ⟨xs, H1, J1, r1, hz, q1⟩ => ⟨J1.kIn, ?_⟩) he hpl
  exact run_exc T iC tI F (hr.mono hk) b hx J1 r1 hz q1
theorem passF : Passes (L2N.CX X.prog X.w) X (fun _ _ _ => False) := fun _ _ _ _ _ _ _ h => by
  obtain ⟨_, _, _, _, _, _, _, _, _, _, _, _, z⟩ := h
  exact z.elim
/-! ### operators of own classes -/
def rOwn1 (C : Addr) (sp : Sp) (E : XK) : V → Hp → VK → Prop := fun x H Q => ∃ a dx fs, x = .ref a ∧ H a = some (.ins C dx fs) ∧ sp [.ref a] H Q E
def rOwn2 (C : Addr) (sp : Sp) (E : XK) : R2 := fun x y H Q => ∃ a b dx dy fs gs, x = .ref a ∧ y = .ref b ∧ H a = some (.ins C dx fs) ∧ H b = some (.ins C dy gs) ∧ sp [.ref a, .ref b] H (fun v H' => (∃ q, v = .ref q) ∧ Q v H') E
theorem ref_cls {pi : List (Addr × Obj)} {s0 : Shared} {sl : L2.St} {H0 : Hp} {b dy : Addr} {gs : List (Str × V)} (J : Inv X pi sl H0 s0) (eb : H0 b = some (.ins C dy gs)) {M : Model} : PySem.W.Looks M s0.heap (typeOf (.ref b)) (.ref C) := by
  obtain ⟨mA, O, _⟩ := ins_get J.hok eb
  obtain ⟨od, I0, _⟩ := O.look
  exact I0.type
theorem op_own {op : Operator} {m : Str} (hop : PySem.dunder op.info.2 = m) (hs : PySem.W.selfFirst X.K C = true) (c : Met X.prog X.w X.K X.mg X.base k C m sp []) (hr : Room j X.A) (hk : k ≤ j) {E : XK} (hx : Passes (L2N.CX X.prog X.w) X E) : OpR X (binaryOp op) (rOwn2 C sp E) := by
  intro pi s0 sl H0 y z v u Q0 J ry rz h0
  obtain ⟨a, b, dy, dz, fs, gs, rfl, rfl, ea, eb, q⟩ := h0
  obtain rfl : v = Value.ref a := ry
  obtain rfl : u = Value.ref b := rz
  obtain ⟨f, fd, ps, ds, hc, hm, F, bd, d⟩ := c.ex
  obtain ⟨mA, O, _⟩ := ins_get J.hok ea
  obtain ⟨od, I0, _⟩ := O.look
  obtain ⟨m0, fr⟩ := J.fr
  refine PySem.W.binop_K fr J.ok.mod.kin I0 (ref_cls J eb) hs (by rw [hop]; exact hm.at_) hm.fn ?_
  cases d
  refine wpAny_mono (run_fn (us := [.ref a, .ref b]) (vs := [.ref a, .ref b]) F (hr.mono hk) bd .nil hx J (.cons rfl (.cons rfl .nil)) q) (fun r s1 hq => ?_) fun _ _ z => z
  obtain ⟨v1, H1, J1, rv, ⟨q1, e1⟩, q2⟩ := hq
  subst e1
  obtain rfl : r = Value.ref q1 := rv
  exact ⟨.ref q1, H1, J1, rfl, q2⟩
/-! ### unions -/
def rOr (r r' : R2) : R2 := fun x y H Q => r x y H Q ∨ r' x y H Q
def rOr1 (r r' : V → Hp → VK → Prop) : V → Hp → VK → Prop := fun x H Q => r x H Q ∨ r' x H Q
theorem op_or2 {f : Value → Value → Sem Value} {r r' : R2} (h : OpR X f r) (h' : OpR X f r') : OpR X f (rOr r r') := by
  intro pi s0 sl H0 y z v u Q0 J ry rz h0
  rcases h0 with h0 | h0
  · exact h _ _ _ _ _ _ _ _ _ J ry rz h0
  · exact h' _ _ _ _ _ _ _ _ _ J ry rz h0
/-! ### named operators -/
def zNeg : V → Hp → VK → Prop := fun x H Q => ∃ i, x = .int i ∧ Q (.int (-i)) H
def zAdd : R2 := fun x y H Q => ∃ i j, x = .int i ∧ y = .int j ∧ Q (.int (i + j)) H
def zSub : R2 := fun x y H Q => ∃ i j, x = .int i ∧ y = .int j ∧ Q (.int (i - j)) H
/-- a size of bits -/
def Bits (n : Nat) (i : Int) : Prop := i.natAbs < 2 ^ n
def zMul : R2 := fun x y H Q => ∃ i j, x = .int i ∧ y = .int j ∧ IntMulOk i j ∧ Q (.int (i * j)) H
def zDiv : R2 := fun x y H Q => ∃ i j, x = .int i ∧ y = .int j ∧ (j ≠ 0 ∧ j.natAbs.log2 < 9000) ∧ Q (.int (i.fdiv j)) H
def zMod : R2 := fun x y H Q => ∃ i j, x = .int i ∧ y = .int j ∧ 0 < j ∧ Q (.int (i % j)) H
def zPow : R2 := fun x y H Q => ∃ i j, x = .int i ∧ y = .int j ∧ CPow i j ∧ Q (.int (i ^ j.toNat)) H
def zLt : R2 := fun x y H Q => ∃ i j, x = .int i ∧ y = .int j ∧ Q (.bl (decide (i < j))) H
def zLe : R2 := fun x y H Q => ∃ i j, x = .int i ∧ y = .int j ∧ Q (.bl (decide (i ≤ j))) H
def zGt : R2 := fun x y H Q => ∃ i j, x = .int i ∧ y = .int j ∧ Q (.bl (decide (j < i))) H
def zGe : R2 := fun x y H Q => ∃ i j, x = .int i ∧ y = .int j ∧ Q (.bl (decide (j ≤ i))) H
def zIsN : R2 := fun x y H Q => y = .non ∧ Q (.bl (decide (x = .non))) H
def zNotN : R2 := fun x y H Q => y = .non ∧ Q (.bl (!decide (x = .non))) H
theorem o_neg : UnR X (unaryOp .USub) zNeg := un_neg
theorem o_add : OpR X (binaryOp .Add) zAdd := op_add
theorem o_sub : OpR X (binaryOp .Sub) zSub := op_sub
theorem o_mul : OpR X (binaryOp .Mult) zMul := opI fun _ _ _ _ _ _ _ hc q => mul_int q hc
theorem o_div : OpR X (binaryOp .FloorDiv) zDiv := opI (C := fun _ j => j ≠ 0 ∧ j.natAbs.log2 < 9000) fun _ _ _ _ _ _ _ hc q => floordiv_int hc.1 q (.inl (PyProof.noPylong_of_log2 hc.2))
theorem o_mod : OpR X (binaryOp .Mod) zMod := op_mod
theorem o_pow : OpR X (binaryOp .Pow) zPow := op_pow
theorem o_lt : OpR X (compareOp .Lt) zLt := op_lt
theorem o_gt : OpR X (compareOp .Gt) zGt := op_gt
theorem o_ge : OpR X (compareOp .GtE) zGe := op_ge
theorem o_isN : OpR X (compareOp .Is) zIsN := op_isN
theorem o_notN : OpR X (compareOp .IsNot) zNotN := op_notN
end
/-! ### the readings' steps -/
section
variable {K : PySem.W.Frag} {σ : L2.St} {H : Hp} {Q : VK} {v : V} {ta tb te : TE} {r r' : R2}
theorem z_var {i : Nat} (h : σ[i]? = some (some v)) (q : Q v H) : tVar i σ H Q := ⟨v, h, q⟩
theorem z_c (q : Q v H) : tC v σ H Q := q
theorem z_op (q : ta σ H fun x H1 => tb σ H1 fun y H2 => r x y H2 Q) : tOp r ta tb σ H Q := q
theorem z_un {u : V → Hp → VK → Prop} (q : ta σ H fun x H1 => u x H1 Q) : tUn u ta σ H Q := q
theorem z_neg {i : Int} (q : Q (.int (-i)) H) : zNeg (.int i) H Q := ⟨i, rfl, q⟩
theorem z_add {i j : Int} (q : Q (.int (i + j)) H) : zAdd (.int i) (.int j) H Q := ⟨i, j, rfl, rfl, q⟩
theorem z_sub {i j : Int} (q : Q (.int (i - j)) H) : zSub (.int i) (.int j) H Q := ⟨i, j, rfl, rfl, q⟩
theorem z_mul {i j : Int} (c : IntMulOk i j) (q : Q (.int (i * j)) H) : zMul (.int i) (.int j) H Q := ⟨i, j, rfl, rfl, c, q⟩
theorem z_mulL {i j : Int} (h1 : -18446744073709551616 < i) (h2 : i < 18446744073709551616) (q : Q (.int (i * j)) H) : zMul (.int i) (.int j) H Q := z_mul (CMul.ok (.inl ⟨by simpa using h1, by simpa using h2⟩)) q
theorem z_mulR {i j : Int} (h1 : -18446744073709551616 < j) (h2 : j < 18446744073709551616) (q : Q (.int (i * j)) H) : zMul (.int i) (.int j) H Q := z_mul (CMul.ok (.inr ⟨by simpa using h1, by simpa using h2⟩)) q
theorem z_mulB {i j : Int} {a b : Nat} (ha : Bits a i) (hb : Bits b j) (h0 : 0 < a) (h1 : 0 < b) (h : a + b ≤ 1000000) (q : Q (.int (i * j)) H) : zMul (.int i) (.int j) H Q := z_mul (CMulW.ok (wide_mul ha hb h0 h1 h)) q
theorem z_divN {i j : Int} {b : Nat} (h : j ≠ 0) (hb : Bits b j) (h0 : 0 < b) (h9 : b ≤ 9000) (q : Q (.int (i.fdiv j)) H) : zDiv (.int i) (.int j) H Q := ⟨i, j, rfl, rfl, ⟨h, Nat.lt_of_lt_of_le (PySem.Flt.log2_lt_of h0 hb) h9⟩, q⟩
theorem z_div {i j : Int} {b : Nat} (h : 0 < j) (hb : Bits b j) (h0 : 0 < b) (h9 : b ≤ 9000) (q : Q (.int (i / j)) H) : zDiv (.int i) (.int j) H Q := z_divN (by omega) hb h0 h9 (by rw [Int.fdiv_eq_ediv_of_nonneg i (by omega)]; exact q)
theorem z_divS {i j : Int} (h : 0 < j) (h2 : j < 18446744073709551616) (q : Q (.int (i / j)) H) : zDiv (.int i) (.int j) H Q := z_div (b := 64) h (by unfold Bits; have e : (2 : Nat) ^ 64 = 18446744073709551616 := by decide
                                                                                                                                                      omega) (by decide) (by decide) q
theorem z_mod {i j : Int} (c : 0 < j) (q : Q (.int (i % j)) H) : zMod (.int i) (.int j) H Q := ⟨i, j, rfl, rfl, c, q⟩
theorem z_pow {i j : Int} (c : CPow i j) (q : Q (.int (i ^ j.toNat)) H) : zPow (.int i) (.int j) H Q := ⟨i, j, rfl, rfl, c, q⟩
theorem z_lt {i j : Int} (q : Q (.bl (decide (i < j))) H) : zLt (.int i) (.int j) H Q := ⟨i, j, rfl, rfl, q⟩
theorem z_le {i j : Int} (q : Q (.bl (decide (i ≤ j))) H) : zLe (.int i) (.int j) H Q := ⟨i, j, rfl, rfl, q⟩
theorem z_gt {i j : Int} (q : Q (.bl (decide (j < i))) H) : zGt (.int i) (.int j) H Q := ⟨i, j, rfl, rfl, q⟩
theorem z_ge {i j : Int} (q : Q (.bl (decide (j ≤ i))) H) : zGe (.int i) (.int j) H Q := ⟨i, j, rfl, rfl, q⟩
theorem z_isN {x : V} (q : Q (.bl (decide (x = .non))) H) : zIsN x .non H Q := ⟨rfl, q⟩
theorem z_notN {x : V} (q : Q (.bl (!decide (x = .non))) H) : zNotN x .non H Q := ⟨rfl, q⟩
theorem z_eqI {i j : Int} (q : Q (.bl (decide (i = j))) H) : rEq (.int i) (.int j) H Q := ⟨rfl, by
  have e : decide (V.int i = V.int j) = decide (i = j) := by rw [Bool.eq_iff_iff]; simp
  rw [e]; exact q⟩
theorem z_neI {i j : Int} (q : Q (.bl (!decide (i = j))) H) : rNe (.int i) (.int j) H Q := ⟨rfl, by
  have e : decide (V.int i = V.int j) = decide (i = j) := by rw [Bool.eq_iff_iff]; simp
  rw [e]; exact q⟩
theorem z_nil {QA : List V → Hp → Prop} (q : QA [] H) : tNil σ H QA := q
theorem z_cons {tr : TA} {QA : List V → Hp → Prop} (q : ta σ H fun x H1 => tr σ H1 fun xs H2 => QA (x :: xs) H2) : tCons ta tr σ H QA := q
theorem z_call {sp : Sp} {dvs : List V} {W : WX} {t : TA} (q : t σ H fun vs H1 => sp (vs ++ dvs) H1 Q (fun cls d H' => W cls d σ H')) : tCallW sp dvs W t σ H Q := q
theorem z_cb {rc : List V → Hp → VK → Prop} {t : TA} (q : t σ H fun vs H1 => rc vs H1 Q) : tCB rc t σ H Q := q
theorem z_if {tt : TT} (q : tt σ H fun c H1 => if c = true then ta σ H1 Q else tb σ H1 Q) : tIf tt ta tb σ H Q := q
theorem z_andV (q : ta σ H fun x H1 => ∃ c, x = .bl c ∧ if c = true then tb σ H1 Q else Q (.bl false) H1) : tAndV ta tb σ H Q := q
theorem z_orV (q : ta σ H fun x H1 => ∃ c, x = .bl c ∧ if c = true then Q (.bl true) H1 else tb σ H1 Q) : tOrV ta tb σ H Q := q
theorem z_notV (q : ta σ H fun x H1 => ∃ c, x = .bl c ∧ Q (.bl (!c)) H1) : tNotV ta σ H Q := q
/- tests -/
variable {QB : Bool → Hp → Prop} {b : Bool} {tt tu : TT}
theorem z_test (q : te σ H fun x H1 => ∃ k, x = .bl k ∧ QB k H1) : tTest te σ H QB := q
theorem z_tb (q : te σ H fun x H1 => ∃ k, x = .bl k ∧ QB k H1) : tB te σ H QB := q
theorem z_bl (q : QB b H) : ∃ k, V.bl b = .bl k ∧ QB k H := ⟨b, rfl, q⟩
theorem z_blI {P : Bool → Prop} (q : P b) : ∃ k, V.bl b = .bl k ∧ P k := ⟨b, rfl, q⟩
theorem z_and (q : tt σ H fun c H1 => if c = true then tu σ H1 QB else QB false H1) : tAnd tt tu σ H QB := q
theorem z_or (q : tt σ H fun c H1 => if c = true then QB true H1 else tu σ H1 QB) : tOr tt tu σ H QB := q
theorem z_not (q : tt σ H fun c H1 => QB (!c) H1) : tNot tt σ H QB := q
/- statements -/
variable {D : Ends} {t u : TS}
theorem z_seq (q : t { D with nx := u D } σ H) : tSeq t u D σ H := q
theorem z_next (q : D.nx σ H) : tNext D σ H := q
theorem z_asg {i : Nat} (q : te σ H fun x H1 => D.nx (σ.set i (some x)) H1) : tAsg te (gName i) D σ H := q
theorem z_ret (q : te σ H D.rt) : tRet te D σ H := q
theorem z_retN (q : D.rt .non H) : tRetN D σ H := q
theorem z_drop (q : te σ H fun _ H1 => D.nx σ H1) : tDrop te D σ H := q
theorem z_ifS (q : tt σ H fun b H1 => if b = true then t D σ H1 else u D σ H1) : tIfS tt t u D σ H := q
theorem z_par {i j : Nat} {ta : TA} (q : ta σ H fun vs H1 => ∃ v w, vs = [v, w] ∧ D.nx ((σ.set i (some v)).set j (some w)) H1) : tPar i j ta D σ H := q
theorem z_par2 {v w : V} {P : V → V → Prop} (q : P v w) : ∃ v' w', [v, w] = [v', w'] ∧ P v' w' := ⟨v, w, rfl, q⟩
theorem z_nx {n : L2.St → Hp → Prop} {rt : VK} {bk ct : L2.St → Hp → Prop} (q : n σ H) : Ends.nx ⟨n, rt, bk, ct⟩ σ H := q
theorem z_rt {n : L2.St → Hp → Prop} {rt : VK} {bk ct : L2.St → Hp → Prop} (q : rt v H) : Ends.rt ⟨n, rt, bk, ct⟩ v H := q
theorem z_bk {n : L2.St → Hp → Prop} {rt : VK} {bk ct : L2.St → Hp → Prop} (q : bk σ H) : Ends.bk ⟨n, rt, bk, ct⟩ σ H := q
theorem z_ct {n : L2.St → Hp → Prop} {rt : VK} {bk ct : L2.St → Hp → Prop} (q : ct σ H) : Ends.ct ⟨n, rt, bk, ct⟩ σ H := q
theorem z_break (q : D.bk σ H) : tBreak D σ H := q
theorem z_cont (q : D.ct σ H) : tCont D σ H := q
/-- a decided branch -/
theorem z_T {A B : Prop} (h : A) : if true = true then A else B := by rw [if_pos rfl]; exact h
theorem z_F {A B : Prop} (h : B) : if false = true then A else B := by rw [if_neg Bool.false_ne_true]; exact h
theorem z_dT {c : Prop} [Decidable c] {A B : Prop} (hc : c) (h : A) : if decide c = true then A else B := by rw [if_pos (decide_eq_true hc)]; exact h
theorem z_dF {c : Prop} [Decidable c] {A B : Prop} (hc : ¬ c) (h : B) : if decide c = true then A else B := by rw [decide_eq_false hc, if_neg Bool.false_ne_true]; exact h
theorem z_d2 {c : Prop} [Decidable c] {A B : Prop} (h1 : c → A) (h2 : ¬ c → B) : if decide c = true then A else B := by
  by_cases h : c
  · exact z_dT h (h1 h)
  · exact z_dF h (h2 h)
theorem z_nn {b : Bool} {A B : Prop} (h : if b = true then B else A) : if (!b) = true then A else B := by
  cases b
  · exact z_T (by simpa using h)
  · exact z_F (by simpa using h)
end
end Z
set_option maxHeartbeats 4000000
/-! facts of the text behind the top, read by one look; the law's end -/
namespace Z
open PySem PySem.Spec PyProof.Rows L2
abbrev Frag := PySem.W.Frag
abbrev Chk := Frag → Bool
abbrev SeenZ : Type := Bool × List He.FnW
def seenK (fb : List Chk) (fn : List He.DefD) (K : Frag) : SeenZ := ((fb.all fun c => c K) && fn.all fun d => d.ok K, fn.map fun d => He.fnW K d.at_)
def dueK (fn : List He.DefD) : SeenZ := (true, fn.map He.DefD.val)
def Says (fb : List Chk) (fn : List He.DefD) (K : Frag) : Prop := seenK fb fn K = dueK fn
section
variable {fb : List Chk} {fn : List He.DefD} {K : Frag}
theorem Says.fact (c : Says fb fn K) (i : Nat) {f : Chk} (h : fb[i]? = some f := by rfl) : f K = true := by
  have q := (He.ba (congrArg (fun z : SeenZ => z.1) c)).1
  exact List.all_eq_true.mp q f (List.mem_of_getElem? h)
theorem Says.def_ (c : Says fb fn K) (i : Nat) {d : He.DefD} (h : fn[i]? = some d := by rfl) : ∃ fd, FunD K d.name d.qual d.params d.body d.scope (d.dvs K) (d.kws K) (He.fAd K d.at_) fd := by
  have q := (He.ba (congrArg (fun z : SeenZ => z.1) c)).2
  have e : fn.map (fun d => He.fnW K d.at_) = fn.map He.DefD.val := congrArg (fun z : SeenZ => z.2) c
  have e2 := congrArg (fun l => l[i]?) e
  simp only [List.getElem?_map, h, Option.map_some] at e2
  exact He.DefD.funD (Option.some.inj e2) (List.all_eq_true.mp q d (List.mem_of_getElem? h))
end
/-! ### the looks -/
def cGlo (x : Str) : Chk := fun K => (He.Fa.glo x).ok K
def cFree (x : Str) : Chk := fun K => (He.Fa.free x).ok K
def cVal (x : Str) (id : String) : Chk := fun K => He.eqO (PySem.W.nsIn K mainGlobals x) (some (some (.builtin id)))
def cCls (x : Str) : Chk := fun K => (He.Fa.cls x).ok K
def cNo (x f : Str) : Chk := fun K => (He.Fa.noat x f).ok K
def cMeth (x m : Str) : Chk := fun K => (He.Fa.meth x m).ok K
def cMk (x : Str) : Chk := fun K => (He.Fa.mkr x).ok K
def cExc0 (x : Str) : Chk := fun K => (He.Fa.exc x).ok K
def cExm (x y : Str) (b : Bool) : Chk := fun K => (He.Fa.exm x y b).ok K
def cSelf (x : Str) : Chk := fun K => PySem.W.selfFirst K (He.ga K x)
/-- an exception class whose own __init__ is walked -/
def oexB (K : Frag) (C : Addr) : Bool := match K.lookup C with
  | some ⟨.type t, _, .cls cd, sl⟩ => (match cd.mro, sl.toList with
    | .ref C' :: bm, [_, _, _, _, some (.builtin n), _] => decide (t = "type") && (decide (C' = C) && (decide (n = "ValueError.__new__") && (!cd.hasDel && (cd.hasDict && PySem.HandSPX.refsVE bm))))
    | _, _ => false)
  | _ => false
theorem oexB_ok {K : Frag} {C : Addr} (h : oexB K C = true) : ∃ nm q N bs bm sn sub ab col dd k0 k1 k2 k3 k5, K.lookup C = some (excClassObj nm q C N bs bm true sn sub ab col dd k0 k1 k2 k3 k5 "ValueError.__new__") ∧ PySem.HandSPX.refsVE bm = true := by
  unfold oexB at h
  split at h
  · rename_i t dd cd sl ho
    split at h
    · rename_i C' bm k0 k1 k2 k3 n k5 hm hs
      obtain ⟨h1, h⟩ := He.ba h
      obtain ⟨h2, h⟩ := He.ba h
      obtain ⟨h3, h⟩ := He.ba h
      obtain ⟨h4, h⟩ := He.ba h
      obtain ⟨h5, h6⟩ := He.ba h
      have e1 := of_decide_eq_true h1
      have e2 := of_decide_eq_true h2
      have e3 := of_decide_eq_true h3
      obtain ⟨nm, bs, mro, ns, qn, hd, sn, sub, ab, col, del⟩ := cd
      have e4 : del = false := by simpa using h4
      have e5 : hd = true := h5
      dsimp only at hm
      subst hm e4 e5 e1 e2 e3
      have hsl : sl = #[k0, k1, k2, k3, some (.builtin "ValueError.__new__"), k5] := by
        obtain ⟨l⟩ := sl
        simp only at hs
        rw [hs]
      subst hsl
      exact ⟨nm, qn, ns, bs, bm, sn, sub, ab, col, dd, k0, k1, k2, k3, k5, ho, h6⟩
    · cases h
  · cases h
def cOex (x : Str) : Chk := fun K => oexB K (He.ga K x) && (He.eqO (PySem.W.findIn K (.ref (He.ga K x)) "__setattr__") (some (some (.builtin "object.__setattr__"))) && (decide (PySem.W.subIn K (.ref (He.ga K x)) (.type "BaseException") = some true) &&
  (decide (PySem.W.typeIn K (.ref (He.ga K x)) = some (.type "type")) && (PySem.W.keepIn K (.ref (He.ga K x)) && (He.eqO (PySem.W.findIn K (.ref (He.ga K x)) "__init__") (some (some (.ref (He.ma K (He.ga K x) "__init__")))) && decide (PySem.W.typeIn K (.ref (He.ma K (He.ga K x) "__init__")) = some (.type "function")))))))
theorem oex_ok {K : Frag} {x : Str} (h : cOex x K = true) : OexC K (He.ga K x) ∧ PySem.W.findIn K (.ref (He.ga K x)) "__init__" = some (some (.ref (He.ma K (He.ga K x) "__init__"))) ∧ PySem.W.typeIn K (.ref (He.ma K (He.ga K x) "__init__")) = some (.type "function") := by
  obtain ⟨h1, h⟩ := He.ba h
  obtain ⟨h2, h⟩ := He.ba h
  obtain ⟨h3, h⟩ := He.ba h
  obtain ⟨h4, h⟩ := He.ba h
  obtain ⟨h5, h⟩ := He.ba h
  obtain ⟨h6, h7⟩ := He.ba h
  exact ⟨⟨oexB_ok h1, He.eqO_ok h2, of_decide_eq_true h3, of_decide_eq_true h4, h5⟩, He.eqO_ok h6, of_decide_eq_true h7⟩
/-- an exception of this class caught: its fields, isinstance -/
def cExcC (x : Str) : Chk := fun K => He.eqO (PySem.W.findIn K (.ref (He.ga K x)) "__getattribute__") (some (some (.builtin "BaseException.__getattribute__"))) && (He.eqO (PySem.W.findIn K (.ref (He.ga K x)) "__getattr__") (some none) && (decide (PySem.W.subIn K (.ref (He.ga K x)) (.type "BaseException") = some true) &&
  (PySem.W.hasDictIn K (He.ga K x) && (He.eqO (PySem.W.findIn K (.ref (He.ga K x)) "__class__") (some (some (.builtin "object.__class__"))) && (decide (PySem.W.specialIn K (.builtin "object.__class__") "__get__" = some (some (.builtin "getset_descriptor.__get__"))) &&
  (decide (PySem.W.takesIn K (.builtin "object.__class__") = some true) && decide (PySem.W.mroIn K (He.ga K x) (.type "object") = some true)))))))
theorem excC_ok {K : Frag} {x : Str} (h : cExcC x K = true) : ExcC K (He.ga K x) := by
  obtain ⟨h1, h⟩ := He.ba h
  obtain ⟨h2, h⟩ := He.ba h
  obtain ⟨h3, h⟩ := He.ba h
  obtain ⟨h4, h⟩ := He.ba h
  obtain ⟨h5, h⟩ := He.ba h
  obtain ⟨h6, h⟩ := He.ba h
  obtain ⟨h7, h8⟩ := He.ba h
  exact ⟨He.eqO_ok h1, He.eqO_ok h2, of_decide_eq_true h3, h4, He.eqO_ok h5, of_decide_eq_true h6, of_decide_eq_true h7, of_decide_eq_true h8⟩
theorem _root_.L2.ExcC.xf {K : Frag} {C : Addr} (c : ExcC K C) : XfC K C := ⟨c.hg, c.hk, c.hs, c.hd⟩
/-- isinstance of an instance of this class -/
structure InsK (K : Frag) (C : Addr) : Prop where
  cl : Cls K C
  ha : PySem.W.findIn K (.ref C) "__class__" = some (some (.builtin "object.__class__"))
  hn : PySem.W.specialIn K (.builtin "object.__class__") "__get__" = some (some (.builtin "getset_descriptor.__get__"))
  ht : PySem.W.takesIn K (.builtin "object.__class__") = some true
  hm : PySem.W.mroIn K C (.type "object") = some true
theorem InsK.ty {K : Frag} {C a dx : Addr} {fs : List (Str × V)} {H : Hp} (c : InsK K C) (h : H a = some (.ins C dx fs)) : TyX K H (.ref a) (.ref C) := .base (.ins h c.cl c.ha c.hn c.ht c.hm)
def cIns (x : Str) : Chk := fun K => (He.Fa.cls x).ok K && (He.eqO (PySem.W.findIn K (.ref (He.ga K x)) "__class__") (some (some (.builtin "object.__class__"))) && (decide (PySem.W.specialIn K (.builtin "object.__class__") "__get__" = some (some (.builtin "getset_descriptor.__get__"))) &&
  (decide (PySem.W.takesIn K (.builtin "object.__class__") = some true) && decide (PySem.W.mroIn K (He.ga K x) (.type "object") = some true))))
theorem insK_ok {K : Frag} {x : Str} (h : cIns x K = true) : InsK K (He.ga K x) := by
  obtain ⟨h1, h⟩ := He.ba h
  obtain ⟨h5, h⟩ := He.ba h
  obtain ⟨h6, h⟩ := He.ba h
  obtain ⟨h7, h8⟩ := He.ba h
  exact ⟨He.cls_ok h1, He.eqO_ok h5, of_decide_eq_true h6, of_decide_eq_true h7, of_decide_eq_true h8⟩
/-- isinstance's answer for an instance of x asked for the class y; for a value of the built-in type t asked for y; for an instance of x asked for the built-in type t -/
def cKit (x y : Str) (b : Bool) : Chk := fun K => decide (PySem.W.kitOne K (.ref (He.ga K x)) (.ref (He.ga K y)) = some b)
/-! ### isinstance of a caught exception -/
def rIsX (K : Frag) (D : Addr) (a : Addr) : List V → Hp → VK → Prop := fun xs H Q => ∃ (c : V) (cv : Value) (b : Bool), xs = [.ref a, c] ∧ ClsV c cv ∧ PySem.W.kitOne K (.ref D) cv = some b ∧ Q (.bl b) H
/-- the caught one's class is D, its dict none or a tracked one -/
theorem call_isEx {X : Cx} {a D : Addr} {oe : Obj} {cls : Value} {d : Option Addr} {pn : List (Addr × Obj)} (C : ExcC X.K D) (hz : Zc cls d oe) (hf : ∃ vs, oe.data = .fields vs) :
    CallR (X.suite a ((a, oe) :: pn)) (.builtin "isinstance") (fun xs H Q => cls = .ref D ∧ (∀ dd, d = some dd → ∃ fs, H dd = some (.xd fs)) ∧ rIsX X.K D a xs H Q) := by
  intro pi s0 sl H0 xs us Q0 J r h0
  obtain ⟨ec, hd, c, cv, b, rfl, kc, e, q⟩ := h0
  obtain ⟨u1, u2, rfl, r1, r2⟩ := vals2 r
  obtain rfl : u1 = Value.ref a := r1
  have e2 := kc.eq r2
  subst e2
  subst ec
  obtain ⟨hget, _⟩ := J.pin (a, oe) (List.mem_append_left _ List.mem_cons_self)
  obtain ⟨vs, hv⟩ := hf
  have nc : PySem.W.notCls oe := by unfold PySem.W.notCls; rw [hv] <;> rfl
  have inst : ∃ od, PySem.W.InstAt s0.heap a oe D od := by
    cases d with
    | none => exact ⟨none, hget, hz.1, nc, by rw [hz.2]; trivial⟩
    | some dd =>
      obtain ⟨fs, hx⟩ := hd dd rfl
      have ox : ObjOk X.prog X.w H0 s0.heap dd (.xd fs) := J.hok dd _ hx
      obtain ⟨mA, hns, _⟩ := ox
      obtain ⟨od, ho, _⟩ := lookIn_ns hns
      exact ⟨some od, hget, hz.1, nc, by rw [hz.2]; exact ho⟩
  obtain ⟨od, I0⟩ := inst
  have hcl : (PySem.W.clsIn X.K D).isSome = true := by
    obtain ⟨cdD, hcD, _⟩ := PySem.W.any_some C.hd
    rw [hcD] <;> rfl
  exact PySem.W.kia_one (PySem.W.kitx_exc hcl C.hg C.hk C.hs C.ha C.hn C.ht C.hm) J.kIn I0 e (fun z => nomatch z) fun tk => ⟨.bl b, H0, J.kept (t' := tk) fun _ _ z => z, rfl, q⟩
/-! ### calls within an except suite -/
section
variable {X : Cx} {k j : Nat} {sp : Sp} {x : Str} {p pos : Pos} {e : Expr} {es : List Expr} {t : TA}
theorem takesF {X : Cx} : L2N.Takes X (fun _ _ _ _ => False) := fun _ _ ⟨_, _, _, _, _, _, _, _, _, _, _, _, _, _, _, _, z⟩ => z.elim
theorem pe_ch (c : CalH X.prog X.w X.K X.mg X.base k x sp) (hr : L2H.RoomH j X.A) (hk : k ≤ j) (hot : L2H.HotC X) (ha : PA X (e :: es) t) (hg : Gl X x := by rfl)
    (hdb : (x == ("__debug__" : Str)) = false := by decide) (he : starEach (e :: es) X.env = (false, eval e X.env) :: starEach es X.env := by rfl) (hpl : (backTo pos (starEach es X.env)).any (·.1) = false := by rfl) :
    PE X (.Call (.Name x p) (e :: es) [] pos) (tCallW sp [] (fun _ _ _ _ => False) t) := by
  obtain ⟨f, fd, ps, F, hm, kp, b⟩ := c.ex
  have h := L2H.pe_callH (E := fun _ _ _ _ => False) F (hr.mono hk) hot hg hm kp b (fun σ => L2N.passAt takesF σ) ha (q := p) hdb he hpl
  refine ⟨fun pi s0 sl H0 Q0 J h0 => h.run pi s0 sl H0 Q0 J ?_⟩
  have e1 : (tCallW sp [] (fun _ _ _ _ => False) t) = L2.tCallS sp (fun _ _ _ _ => False) t := by
    unfold tCallW L2.tCallS
    funext σ H Q
    simp only [List.append_nil]
  rw [← e1]
  exact h0
end
/-! ### names of types and classes as values -/
theorem pe_ty {X : Cx} {x : Str} {pos : Pos} (n : String) (hg : Gl X x) (hm : X.mg x = none) (hv : bootBuiltins x = some (.type n)) (hn : x ≠ "__name__" := by decide) (hd : (x == ("__debug__" : Str)) = false := by decide) : PE X (.Name x pos) (tC (.ty n)) :=
  pe_bltn (v := .ty n) (u := .type n) hg hm hv rfl hn hd
theorem pe_cls {X : Cx} {x : Str} {pos : Pos} {a : Addr} (hm : X.mg x = some (.ref a)) (hg : Gl X x := by rfl) (hd : (x == ("__debug__" : Str)) = false := by decide) : PE X (.Name x pos) (tC (.ref a)) :=
  pe_glob (v := .ref a) (u := .ref a) hg hm rfl hd
/-! ### promises by the number of arguments -/
abbrev F1 := V → Hp → VK → XK → Prop
abbrev F2 := V → V → Hp → VK → XK → Prop
abbrev F3 := V → V → V → Hp → VK → XK → Prop
abbrev F4 := V → V → V → V → Hp → VK → XK → Prop
abbrev F5 := V → V → V → V → V → Hp → VK → XK → Prop
def sp1 (f : F1) : Sp := fun vs H Q E => ∃ a, vs = [a] ∧ f a H Q E
def sp2 (f : F2) : Sp := fun vs H Q E => ∃ a b, vs = [a, b] ∧ f a b H Q E
def sp3 (f : F3) : Sp := fun vs H Q E => ∃ a b c, vs = [a, b, c] ∧ f a b c H Q E
def sp4 (f : F4) : Sp := fun vs H Q E => ∃ a b c d, vs = [a, b, c, d] ∧ f a b c d H Q E
def sp5 (f : F5) : Sp := fun vs H Q E => ∃ a b c d e, vs = [a, b, c, d, e] ∧ f a b c d e H Q E
section
variable {H : Hp} {Q : VK} {E : XK} {a b c d e g : V} {vs : List V}
theorem len1 {f : F1} : ∀ vs H Q E, sp1 f vs H Q E → vs.length = 1 := by rintro _ _ _ _ ⟨_, rfl, _⟩; rfl
theorem len2 {f : F2} : ∀ vs H Q E, sp2 f vs H Q E → vs.length = 2 := by rintro _ _ _ _ ⟨_, _, rfl, _⟩; rfl
theorem len3 {f : F3} : ∀ vs H Q E, sp3 f vs H Q E → vs.length = 3 := by rintro _ _ _ _ ⟨_, _, _, rfl, _⟩; rfl
theorem len4 {f : F4} : ∀ vs H Q E, sp4 f vs H Q E → vs.length = 4 := by rintro _ _ _ _ ⟨_, _, _, _, rfl, _⟩; rfl
theorem len5 {f : F5} : ∀ vs H Q E, sp5 f vs H Q E → vs.length = 5 := by rintro _ _ _ _ ⟨_, _, _, _, _, rfl, _⟩; rfl
/- .. behind a call's written arguments -/
theorem z_sq0 {sp : Sp} (h : sp vs H Q E) : sp (vs ++ []) H Q E := by rw [List.append_nil]; exact h
theorem z_sq1 {sp : Sp} (h : sp (a :: vs) H Q E) : sp (a :: (vs ++ [])) H Q E := by rw [List.append_nil]; exact h
end
end Z
namespace Z
open PySem PySem.Spec PyProof.Rows L2
/-- a def of which nothing is raised -/
theorem fn_quiet {P : Program} {w : World} {K : Frag} {mg : Str → Option Value} {base : Heap} {k : Nat} {f : Addr} {fd : FuncData} {ps : List Str} {sp : Sp} (F : FnOk P w K mg base (L2N.CX P w) k f fd ps sp) (hs : ∀ vs H Q E, sp vs H Q E → sp vs H Q (fun _ _ _ => False)) :
    FnOk P w K mg base L2.CX0 k f fd ps sp :=
  ⟨F.len, fun A outer s H args us vs Q E hr he hb hv h => codeAny_mono (F.run A outer s H args us vs Q _ hr he hb hv (hs _ _ _ _ h)) fun r s1 q => by
    match r, q with
    | .ok (.ret u), q => exact q
    | .error e, q =>
      obtain ⟨_, _, _, _, _, _, _, _, _, _, _, _, z⟩ := q
      exact z.elim⟩
end Z
set_option maxHeartbeats 4000000
/-! what is carried from heap to heap; calls of built-ins, step by step -/
namespace Z
open PySem PySem.Spec PyProof.Rows L2
section
variable {K : Frag} {H H' H1 H2 : Hp} {Q : VK} {a : Addr} {xs : List V} {o : HO}
theorem Same.at (e : Same H H') (h : H a = some o) : H' a = some o := e a o h
theorem Same.new {p : Addr} (h : H p = none) : Same H (upd H p o) := fun b u hb => by rw [upd_ne (ne_of_none hb h)]; exact hb
theorem z_ixT {p : Addr} {i : Int} {v : V} (h : H p = some (.tup xs)) (e : atI xs i = some v) (q : Q v H) : rIx K (.ref p) (.int i) H Q := .inr (.inl ⟨p, xs, i, v, rfl, rfl, SqT.of h, e, q⟩)
theorem z_ixL {p : Addr} {i : Int} {v : V} (h : SqL K H p xs) (e : atI xs i = some v) (q : Q v H) : rIx K (.ref p) (.int i) H Q := .inl ⟨p, xs, i, v, rfl, rfl, h, e, q⟩
theorem z_new {t : List V → HO} {n : Nat} (hn : n ≤ 16777216) (k : ∀ p, H p = none → Same H (upd H p (t xs)) → upd H p (t xs) p = some (t xs) → Q (.ref p) (upd H p (t xs))) : n ≤ sizeLine ∧ ∀ p, H p = none → Q (.ref p) (upd H p (t xs)) :=
  ⟨by rw [sizeLine_eq]; exact hn, fun p hp => k p hp (Same.new hp) upd_same⟩
/-! named calls of built-ins -/
def rInt1 : List V → Hp → VK → Prop := fun xs H Q => (∃ i, xs = [.int i] ∧ Q (.int i) H) ∨ ∃ k, xs = [.bl k] ∧ Q (.int (if k then 1 else 0)) H
def rAbs1 : List V → Hp → VK → Prop := fun xs H Q => ∃ i, xs = [.int i] ∧ Q (.int (if i < 0 then -i else i)) H
def rLen1 (K : Frag) : List V → Hp → VK → Prop := fun xs H Q => ∃ x n, xs = [x] ∧ LenV K x H n ∧ Q (.int n) H
def rMax2z : List V → Hp → VK → Prop := fun xs H Q => ∃ i j, xs = [.int i, .int j] ∧ Q (.int (if j > i then j else i)) H
def rMin2z : List V → Hp → VK → Prop := fun xs H Q => ∃ i j, xs = [.int i, .int j] ∧ Q (.int (if j < i then j else i)) H
theorem z_int1 {n : Int} (q : Q (.int n) H) : rInt1 [.int n] H Q := .inl ⟨n, rfl, q⟩
theorem z_intb {b : Bool} (q : Q (.int (if b then 1 else 0)) H) : rInt1 [.bl b] H Q := .inr ⟨b, rfl, q⟩
theorem z_abs {n : Int} (q : Q (.int (n.natAbs : Int)) H) : rAbs1 [.int n] H Q := ⟨n, rfl, by
  have e : (if n < 0 then -n else n) = (n.natAbs : Int) := by split <;> omega
  rw [e]; exact q⟩
theorem z_lenL {p : Addr} (h : SqL K H p xs) (q : Q (.int (xs.length : Int)) H) : rLen1 K [.ref p] H Q := ⟨_, _, rfl, .inl ⟨xs, h, rfl⟩, q⟩
theorem z_lenT {p : Addr} (h : H p = some (.tup xs)) (q : Q (.int (xs.length : Int)) H) : rLen1 K [.ref p] H Q := ⟨_, _, rfl, .inr ⟨xs, SqT.of h, rfl⟩, q⟩
theorem z_max2 {i j : Int} (q : Q (.int (max i j)) H) : rMax2z [.int i, .int j] H Q := ⟨i, j, rfl, by
  have e : (if j > i then j else i) = max i j := by rw [Int.max_def]; split <;> split <;> omega
  rw [e]; exact q⟩
theorem z_min2 {i j : Int} (q : Q (.int (min i j)) H) : rMin2z [.int i, .int j] H Q := ⟨i, j, rfl, by
  have e : (if j < i then j else i) = min i j := by rw [Int.min_def]; split <;> split <;> omega
  rw [e]; exact q⟩
theorem z_gcd {i j : Int} (q : Q (.int (Int.gcd i j : Nat)) H) : rGcd [.int i, .int j] H Q := ⟨i, j, rfl, q⟩
theorem z_isi {x c : V} {t u : Value} {b : Bool} (hc : ClsV c u) (ht : TyX K H x t) (hk : PySem.W.kitOne K t u = some b) (q : Q (.bl b) H) : rIsi K [x, c] H Q := ⟨x, c, t, u, b, rfl, hc, ht, hk, q⟩
theorem z_isiI {n : String} {b : Bool} {i : Int} (hk : kitB "int" n = some b) (q : Q (.bl b) H) : rIsi K [.int i, .ty n] H Q := z_isi (.ty n) (.base (.int i)) (kit_ty hk) q
theorem z_isiB {n : String} {b c : Bool} (hk : kitB "bool" n = some b) (q : Q (.bl b) H) : rIsi K [.bl c, .ty n] H Q := z_isi (.ty n) (.base (.bl c)) (kit_ty hk) q
theorem z_isi_ii {i : Int} (q : Q (.bl true) H) : rIsi K [.int i, .ty "int"] H Q := z_isiI (by decide +kernel) q
theorem z_isi_ib {i : Int} (q : Q (.bl false) H) : rIsi K [.int i, .ty "bool"] H Q := z_isiI (by decide +kernel) q
theorem cell_at {ns : List Int} {k : Int} (h0 : 0 ≤ k) (h : k < ((ns.map V.int).length : Int)) : atI (ns.map V.int) k = some (.int (ns.getD k.toNat 0)) := by
  obtain ⟨n, rfl⟩ := Int.eq_ofNat_of_zero_le h0
  have hn : n < ns.length := by
    rw [List.length_map] at h
    omega
  refine atI_nat ?_
  rw [List.getElem?_map, List.getElem?_eq_getElem hn]
  show some (V.int ns[n]) = some (V.int (ns.getD n 0))
  rw [List.getD_eq_getElem?_getD, List.getElem?_eq_getElem hn]
  rfl
end
section
variable {X : Cx}
theorem o_int1 : CallR X (.type "int") rInt1 := call_int1
theorem o_abs : CallR X (.builtin "abs") rAbs1 := call_abs
theorem o_len : CallR X (.builtin "len") (rLen1 X.K) := call_len
theorem o_max2 (hc : X.calm = true) : CallR X (.builtin "max") rMax2z := call_max2 hc
theorem o_min2 (hc : X.calm = true) : CallR X (.builtin "min") rMin2z := call_min2 hc
end
/-! ### instances -/
/-- the fields of a Ratio -/
def rF (v w : V) : List (Str × V) := [(("top" : Str), v), (("bottom" : Str), w)]
/-- a Ratio with these fields -/
def IsR (K : Frag) (H : Hp) (a : Addr) (t b : Int) : Prop := ∃ dx, H a = some (.ins (He.ga K "Ratio") dx (rF (.int t) (.int b)))
section
variable {K : Frag} {H H' : Hp} {Q : VK} {a : Addr} {t b : Int} {v w : V}
theorem IsR.mono (e : Same H H') (h : IsR K H a t b) : IsR K H' a t b := h.elim fun dx q => ⟨dx, e _ _ q⟩
theorem tb_ne : ¬ (("top" : Str) = "bottom") := by decide +kernel
theorem bt_ne : ¬ (("bottom" : Str) = "top") := by decide +kernel
theorem rf_top : (rF v w).lookup ("top" : Str) = some v := by
  unfold rF
  rw [lookup_put, if_pos rfl]
theorem rf_bottom : (rF v w).lookup ("bottom" : Str) = some w := by
  unfold rF
  rw [lookup_put, if_neg bt_ne, lookup_put, if_pos rfl]
theorem rf_no {m : Str} (h1 : ¬ m = "top") (h2 : ¬ m = "bottom") : (rF v w).lookup m = none := by
  unfold rF
  rw [lookup_put, if_neg h1, lookup_put, if_neg h2]
  rfl
/-- .. of a name that holds one -/
theorem z_fldt {i : Nat} {p : Addr} {t b : Int} {σ : L2.St} (c : Cls K (He.ga K "Ratio")) (n : NoAttr K (He.ga K "Ratio") "top") (hs : σ[i]? = some (some (.ref p))) (h : IsR K H p t b) (q : Q (.int t) H) : tFld K (tVar i) "top" σ H Q :=
  ⟨_, hs, h.elim fun dx hp => ⟨p, _, dx, _, _, rfl, hp, c, n, rf_top, q⟩⟩
theorem z_fldb {i : Nat} {p : Addr} {t b : Int} {σ : L2.St} (c : Cls K (He.ga K "Ratio")) (n : NoAttr K (He.ga K "Ratio") "bottom") (hs : σ[i]? = some (some (.ref p))) (h : IsR K H p t b) (q : Q (.int b) H) : tFld K (tVar i) "bottom" σ H Q :=
  ⟨_, hs, h.elim fun dx hp => ⟨p, _, dx, _, _, rfl, hp, c, n, rf_bottom, q⟩⟩
end
end Z
set_option maxHeartbeats 4000000
/-! defs within an except suite; exceptions with fields; a Ratio is made -/
namespace Z
open PySem PySem.Spec PyProof.Rows L2
section
variable {P : Program} {w : World} {K : Frag} {mg : Str → Option Value} {base : Heap} {x qual : Str} {params : Arguments} {body : List Stmt} {scope : Scope} {dvs : List V} {kws : List (Str × V)} {f : Addr} {fd : FuncData}
theorem okH {N ps : List Str} {k : Nat} {sp : Sp} (F : FunD K x qual params body scope dvs kws f fd) (S : FnScope N ps scope) (len : ∀ vs H Q E, sp vs H Q E → vs.length = ps.length)
    (hbody : ∀ (cdv : Value) (A : Around) (outer : List Env) (s : Shared) (H : Hp) (vs : List V) (Q : VK) (E : XK) (p : Addr × Obj), L2H.Hot1 (A.deeper (envOfC qual scope s.heap.objs.size f cdv)) p → L2H.RoomH k (A.deeper (envOfC qual scope s.heap.objs.size f cdv)) → sp vs H Q E →
      ∃ t, PSs (L2H.cxH (L2N.CX P w) P w K mg base N qual scope f cdv A outer s H E p) body t ∧ t { nx := fun _ H' => Q .non H', rt := Q } (start N vs) H) : L2H.FnH P w K mg base (L2N.CX P w) (k + 1) f fd ps sp := by
  obtain ⟨oc, od, dV, kV, doc, pm, an, cdv, ct, osl, rfl, lk, hcd, _, _⟩ := F.ex
  exact L2H.fn_ofH lk hcd S len fun A outer s H vs Q E p h1 hr hsp => hbody cdv A outer s H vs Q E p h1 hr hsp
end
theorem hot_suite {X : Cx} {a : Addr} {oe : Obj} {cls : Value} {d : Option Addr} {pn : List (Addr × Obj)} (hz : L2N.Zn cls d oe) (hf : ∃ vs, oe.data = .fields vs) : L2H.HotC (X.suite a ((a, oe) :: pn)) := by
  obtain ⟨vs, hv⟩ := hf
  exact ⟨(a, oe), ⟨rfl, vs, hv, hz.2.2 vs hv⟩, List.mem_cons_self⟩
theorem hot_in {CX : CXT} {P : Program} {w : World} {K : Frag} {mg : Str → Option Value} {base : Heap} {N : List Str} {qual : Str} {scope : Scope} {f : Addr} {cd : Value} {A : Around} {outer : List Env} {s : Shared} {H : Hp} {E : XK} {p : Addr × Obj} (h : L2H.Hot1 (A.deeper (envOfC qual scope s.heap.objs.size f cd)) p) :
    L2H.HotC (L2H.cxH CX P w K mg base N qual scope f cd A outer s H E p) := ⟨p, h, List.mem_cons_self⟩
theorem room_suite {k : Nat} {A : Around} (r : Room k A) (h : Option Value) : L2H.RoomH k (A.mark h) := ⟨r.dp, r.un⟩
/-! ### exceptions with one field, with two -/
def fs_ex1 (K : Frag) (C : Str) (f : Str) : F2 := fun a b H Q _ => ∃ (e : Addr) (H0 : Hp), a = .ref e ∧ H = upd H0 e (exo e (He.ga K C) none) ∧ H0 e = none ∧
  ∀ (d : Addr) (H' : Hp), H' e = some (exo e (He.ga K C) (some d)) → H' d = some (exd d [(f, b)]) → H0 d = none → Same H0 (upd (del H' e) d (.xd [(f, b)])) → Q .non H'
section
variable {K : Frag} {H H0 : Hp} {Q : VK} {E : XK} {C : Str} {f g : Str} {b c : V} {D : Ends} {σ : L2.St}
/-- self.f = b -/
theorem run_ex1 {e : Addr} (T : OexC K (He.ga K C)) (nf : PySem.W.findIn K (.ref (He.ga K C)) f = some none) (h0 : H0 e = none) (s0 : σ[0]? = some (some (.ref e))) (s1 : σ[1]? = some (some b))
    (k : ∀ (d : Addr) (H' : Hp), H' e = some (exo e (He.ga K C) (some d)) → H' d = some (exd d [(f, b)]) → H0 d = none → Same H0 (upd (del H' e) d (.xd [(f, b)])) → D.nx σ H') :
    tOst K f (tVar 0) (tVar 1) D σ (upd H0 e (exo e (He.ga K C) none)) := by
  refine ⟨_, s1, _, s0, e, _, rfl, T, nf, .inl ⟨upd_same, fun d hd ne => ?_⟩⟩
  have hd0 : H0 d = none := by rw [upd_ne ne] at hd; exact hd
  refine k d _ upd_same (by rw [upd_ne ne, upd_same]) hd0 fun x o hx => ?_
  rw [upd_ne (ne_of_none hx hd0), del_ne (ne_of_none hx h0), upd_ne (ne_of_none hx h0), upd_ne (ne_of_none hx hd0), upd_ne (ne_of_none hx h0)]
  exact hx
end
/-! ### a Ratio is made -/
def rc (n d : Int) : Int := if d < 0 then -((Int.gcd n d : Nat) : Int) else ((Int.gcd n d : Nat) : Int)
def rt (n d : Int) : Int := n.fdiv (rc n d)
def rb (n d : Int) : Int := d.fdiv (rc n d)
theorem rc_ne {n d : Int} (h : d ≠ 0) : rc n d ≠ 0 := by
  have : 0 < Int.gcd n d := Int.gcd_pos_of_ne_zero_right n h
  unfold rc
  split <;> omega
theorem rc_bits {n d : Int} {b : Nat} (h : d ≠ 0) (hb : Bits b d) : Bits b (rc n d) := by
  have h1 : Int.gcd n d ≤ d.natAbs := Nat.le_of_dvd (by omega) (by
    show Nat.gcd n.natAbs d.natAbs ∣ d.natAbs
    exact Nat.gcd_dvd_right _ _)
  unfold Bits at *
  unfold rc
  split <;> omega
theorem rt_pos {n d : Int} (h : 0 < d) : rt n d = n / (Int.gcd n d : Nat) ∧ rb n d = d / (Int.gcd n d : Nat) := by
  have e : rc n d = ((Int.gcd n d : Nat) : Int) := by unfold rc; rw [if_neg (by omega)]
  unfold rt rb
  rw [e, Int.fdiv_eq_ediv_of_nonneg _ (by omega), Int.fdiv_eq_ediv_of_nonneg _ (by omega)]
  exact ⟨rfl, rfl⟩
theorem rt_low {n d : Int} (h : 0 < d) (g : Int.gcd n d = 1) : rt n d = n ∧ rb n d = d := by
  obtain ⟨e1, e2⟩ := rt_pos (n := n) h
  rw [e1, e2, g]
  exact ⟨Int.ediv_one n, Int.ediv_one d⟩
theorem rt_spec {n d : Int} (h : 0 < d) : 0 < rb n d ∧ Int.gcd (rt n d) (rb n d) = 1 ∧ rt n d * d = n * rb n d := by
  obtain ⟨e1, e2⟩ := rt_pos (n := n) h
  have g0 : 0 < Int.gcd n d := Int.gcd_pos_of_ne_zero_right n (by omega)
  rw [e1, e2]
  refine ⟨?_, ?_, ?_⟩
  · exact Int.ediv_pos_of_pos_of_dvd h (by omega) (Int.gcd_dvd_right ..)
  · exact Int.gcd_ediv_gcd_ediv_gcd g0
  · obtain ⟨x, ex⟩ := Int.gcd_dvd_left (a := n) (b := d)
    obtain ⟨y, ey⟩ := Int.gcd_dvd_right (a := n) (b := d)
    generalize ((Int.gcd n d : Nat) : Int) = g at *
    have gn : g ≠ 0 := by
      intro z
      subst z
      simp at ey
      omega
    have q1 : n / g = x := by rw [ex, Int.mul_ediv_cancel_left _ gn]
    have q2 : d / g = y := by rw [ey, Int.mul_ediv_cancel_left _ gn]
    rw [q1, q2, ex, ey]
    grind
def fs_rinit (K : Frag) : F3 := fun a b c H Q E => ∃ (x dx : Addr) (H0 : Hp) (n d : Int), a = .ref x ∧ b = .int n ∧ c = .int d ∧ H = upd (upd H0 dx (.own x)) x (.ins (He.ga K "Ratio") dx []) ∧ H0 x = none ∧ H0 dx = none ∧ dx ≠ x ∧ Bits 8999 d ∧
  (d ≠ 0 → ∀ H', Same H0 H' → IsR K H' x (rt n d) (rb n d) → Q .non H') ∧ (d = 0 → ∀ H', Same H0 H' → E (.ref (He.ga K "ZeroBottom")) none H')
section
variable {K : Frag} {H : Hp} {Q : VK} {E : XK}
/-- Ratio(n, d) -/
theorem z_mkR {n d : Int} (hd : d ≠ 0) (hb : Bits 8999 d) (k : ∀ p H', Same H H' → IsR K H' p (rt n d) (rb n d) → Q (.ref p) H') :
    ∀ x dx, H x = none → H dx = none → dx ≠ x → sp3 (fs_rinit K) [.ref x, .int n, .int d] (upd (upd H dx (.own x)) x (.ins (He.ga K "Ratio") dx [])) (fun v H2 => v = .non ∧ Q (.ref x) H2) E :=
  fun x dx hx hdx ne => ⟨_, _, _, rfl, x, dx, H, n, d, rfl, rfl, rfl, rfl, hx, hdx, ne, hb, fun _ H' e r => ⟨rfl, k x H' e r⟩, fun z => absurd z hd⟩
/-- the two stores -/
theorem run_rinit {D : Ends} {σ : L2.St} {x dx : Addr} {H0 : Hp} {C : Addr} {tv tu : TE} {a b : V} (cl : Cls K C) (n1 : NoAttr K C "top") (n2 : NoAttr K C "bottom") (h0 : H0 x = none) (h1 : H0 dx = none) (ne : dx ≠ x) (s0 : σ[0]? = some (some (.ref x)))
    (e1 : ∀ H1, ∀ Q : VK, Q a H1 → tv σ H1 Q) (e2 : ∀ H1, ∀ Q : VK, Q b H1 → tu σ H1 Q) (k : ∀ H', Same H0 H' → H' x = some (.ins C dx (rF a b)) → D.nx σ H') :
    tSeq (sFld K (tVar 0) tv "top") (sFld K (tVar 0) tu "bottom") D σ (upd (upd H0 dx (.own x)) x (.ins C dx [])) := by
  refine e1 _ _ ⟨_, s0, x, C, dx, _, rfl, upd_same, cl, n1, by decide, ?_⟩
  refine e2 _ _ ⟨_, s0, x, C, dx, _, rfl, upd_same, cl, n2, by show 1 < 1000; decide, ?_⟩
  refine k _ (fun y o hy => ?_) ?_
  · rw [upd_ne (ne_of_none hy h0), upd_ne (ne_of_none hy h0), upd_ne (ne_of_none hy h0), upd_ne (ne_of_none hy h1)]
    exact hy
  · rw [upd_same]
    have e : putF "bottom" b (putF "top" a []) = rF a b := by
      show (if ("top" : Str) = "bottom" then _ else (("top" : Str), a) :: putF "bottom" b []) = _
      rw [if_neg tb_ne]
      rfl
    rw [e]
end
end Z
namespace Z
open PySem PySem.Spec PyProof.Rows L2
end Z
set_option maxHeartbeats 4000000
/-! more steps of reading: makes, methods, loops over a range, wide products -/
namespace Z
open PySem PySem.Spec PyProof.Rows L2
section
variable {K : Frag} {σ : L2.St} {H : Hp} {Q : VK} {v : V} {ta tb te : TE} {t : TA} {sp : Sp} {dvs : List V} {W : WX} {C : Addr} {m : Str} {E : XK}
/-- a class is made of these values -/
def zMk (C : Addr) (sp : Sp) (dvs : List V) (E : XK) (vs : List V) (H : Hp) (Q : VK) : Prop := ∀ x dx, H x = none → H dx = none → dx ≠ x → sp (.ref x :: (vs ++ dvs)) (upd (upd H dx (.own x)) x (.ins C dx [])) (fun v H2 => v = .non ∧ Q (.ref x) H2) E
theorem z_mk (q : t σ H fun vs H1 => zMk C sp dvs (fun cls d H' => W cls d σ H') vs H1 Q) : tMakeW C sp dvs W t σ H Q := q
/-- a method of this value -/
def zMt (C : Addr) (m : Str) (x : V) (H : Hp) (R : Prop) : Prop := ∃ a dx fs, x = .ref a ∧ H a = some (.ins C dx fs) ∧ fs.lookup m = none ∧ R
theorem z_mt (q : ta σ H fun x H1 => zMt C m x H1 (t σ H1 fun vs H2 => sp (x :: (vs ++ dvs)) H2 Q (fun cls d H' => W cls d σ H'))) : tMethW C m sp dvs W ta t σ H Q := q
theorem z_mtR {p : Addr} {a b : Int} {R : Prop} (h : IsR K H p a b) (q : R) (h1 : ¬ m = "top" := by decide +kernel) (h2 : ¬ m = "bottom" := by decide +kernel) : zMt (He.ga K "Ratio") m (.ref p) H R := h.elim fun dx hp => ⟨p, dx, _, rfl, hp, rf_no h1 h2, q⟩
theorem z_ownI {i : Int} {u : V → Hp → VK → Prop} (q : u (.int i) H Q) : rOr1 u (rOwn1 C sp E) (.int i) H Q := .inl q
/-- numbers of up to 200 bits -/
theorem bits_of {i : Int} (h1 : -1606938044258990275541962092341162602522202993782792835301376 < i) (h2 : i < 1606938044258990275541962092341162602522202993782792835301376) : Bits 200 i := by
  unfold Bits
  have e : (2 : Nat) ^ 200 = 1606938044258990275541962092341162602522202993782792835301376 := by decide
  omega
theorem bits_up {i : Int} {a b : Nat} (h : Bits a i) (hb : a ≤ b) : Bits b i := Nat.lt_of_lt_of_le h (Nat.pow_le_pow_right (by decide) hb)
theorem z_mulW {i j : Int} (h1 : -1606938044258990275541962092341162602522202993782792835301376 < i) (h2 : i < 1606938044258990275541962092341162602522202993782792835301376) (h3 : -1606938044258990275541962092341162602522202993782792835301376 < j) (h4 : j < 1606938044258990275541962092341162602522202993782792835301376) (q : Q (.int (i * j)) H) : zMul (.int i) (.int j) H Q :=
  z_mulB (bits_of h1 h2) (bits_of h3 h4) (by decide) (by decide) (by decide) q
theorem z_divW {i j : Int} (h : 0 < j) (h2 : j < 1606938044258990275541962092341162602522202993782792835301376) (q : Q (.int (i / j)) H) : zDiv (.int i) (.int j) H Q := z_div h (bits_of (by omega) h2) (by decide) (by decide) q
theorem z_mkR1 {n : Int} (k : ∀ p H', Same H H' → IsR K H' p n 1 → Q (.ref p) H') : zMk (He.ga K "Ratio") (sp3 (fs_rinit K)) [.int 1] E [.int n] H Q :=
  z_mkR (n := n) (d := 1) (by decide) (bits_up (bits_of (by decide) (by decide)) (by decide)) fun p H' s h => k p H' s (by
    obtain ⟨e1, e2⟩ := rt_low (n := n) (d := 1) (by decide) (Int.gcd_one_right ..)
    rw [e1, e2] at h
    exact h)
/-- isinstance of a Ratio -/
theorem z_isR {p : Addr} {a b : Int} {C2 : Addr} {c : Bool} (I : InsK K (He.ga K "Ratio")) (hk : PySem.W.kitOne K (.ref (He.ga K "Ratio")) (.ref C2) = some c) (h : IsR K H p a b) (q : Q (.bl c) H) : rIsi K [.ref p, .ref C2] H Q := by
  obtain ⟨dx, hp⟩ := h
  exact z_isi (.own C2) (I.ty hp) hk q
/-- a for loop over a range -/
def zRng (g : TG) (tb : TS) (D : Ends) (σ : L2.St) (a b : Int) (H : Hp) : Prop := (-(2 ^ 62) ≤ a ∧ a < 2 ^ 62 ∧ -(2 ^ 62) ≤ b ∧ b < 2 ^ 62) ∧ ∃ I : Int → L2.St → Hp → Prop, I a σ H ∧
  (∀ x σ H, a ≤ x → x < b → I x σ H → g (.int x) σ H fun σ2 H2 => tb { D with nx := I (x + 1), ct := I (x + 1), bk := D.nx } σ2 H2) ∧ ∀ x σ H, a ≤ x → b ≤ x → (a ≤ b → x = b) → I x σ H → D.nx σ H
theorem z_rng {g : TG} {tb : TS} {D : Ends} {a b : Int} (h : zRng g tb D σ a b H) {J : It} (hJ : J = Itr a (b - a).toNat) : ∃ W : Nat → Nat → L2.St → Hp → Prop, (∃ m, W 0 m σ H) ∧ ∀ i m σ H, W i m σ H →
    (J.stop i H ∧ D.nx σ H) ∨ (J.go i H ∧ ∃ N : L2.St → Hp → Prop, (∀ σ' H', N σ' H' → ∃ m', m' < m ∧ W (i + 1) m' σ' H') ∧ ∀ x H', J.yld i H x H' → g x σ H' fun σ2 H2 => tb { D with nx := N, ct := N, bk := D.nx } σ2 H2) := by
  subst hJ
  obtain ⟨hs, I, h0, h1, h2⟩ := h
  refine ⟨fun i m σ H => I (a + i) σ H ∧ i + m = (b - a).toNat, ⟨(b - a).toNat, by simpa using h0, by omega⟩, fun i m σ H w => ?_⟩
  obtain ⟨w, e⟩ := w
  by_cases c : i < (b - a).toNat
  · refine .inr ⟨c, I (a + i + 1), fun σ' H' z => ⟨m - 1, by omega, ?_, by omega⟩, ?_⟩
    · have e2 : a + ((i + 1 : Nat) : Int) = a + i + 1 := by omega
      rw [e2]
      exact z
    · rintro x H' ⟨rfl, rfl⟩
      exact h1 _ _ _ (by omega) (by omega) w
  · exact .inl ⟨by show (b - a).toNat ≤ i; omega, h2 _ _ _ (by omega) (by omega) (by omega) w⟩
def zRg (g : TG) (tb : TS) (D : Ends) (σ : L2.St) (vs : List V) (H1 : Hp) : Prop := ∃ i j : Int, vs = [.int i, .int j] ∧ (-(2 ^ 62) ≤ i ∧ i < 2 ^ 62 ∧ -(2 ^ 62) ≤ j ∧ j < 2 ^ 62) ∧ ∃ W : Nat → Nat → L2.St → Hp → Prop, (∃ m, W 0 m σ H1) ∧ ∀ k m σ H, W k m σ H →
    ((Itr i (j - i).toNat).stop k H ∧ D.nx σ H) ∨ ((Itr i (j - i).toNat).go k H ∧ ∃ N : L2.St → Hp → Prop, (∀ σ' H', N σ' H' → ∃ m', m' < m ∧ W (k + 1) m' σ' H') ∧ ∀ x H', (Itr i (j - i).toNat).yld k H x H' → g x σ H' fun σ2 H2 => tb { D with nx := N, ct := N, bk := D.nx } σ2 H2)
theorem z_for2 {g : TG} {tb : TS} {D : Ends} (q : t σ H fun vs H1 => zRg g tb D σ vs H1) : tFor (iRng2 t) g tb D σ H := q
theorem z_rg {g : TG} {tb : TS} {D : Ends} {a b : Int} (h : zRng g tb D σ a b H) : zRg g tb D σ [.int a, .int b] H := ⟨a, b, rfl, h.1, z_rng h rfl⟩
/-- an exception with two fields is made -/
def zMkO (C : Addr) (sp : Sp) (dvs : List V) (vs : List V) (H1 : Hp) (Q : XK) : Prop := vs.length ≤ 1000 ∧ ∀ a, H1 a = none → sp (.ref a :: (vs ++ dvs)) (upd H1 a (exo a C none)) (fun v H2 => v = .non ∧ ∃ (d : Addr) (fs : List (Str × V)), H2 a = some (exo a C (some d)) ∧ H2 d = some (exd d fs) ∧ H1 d = none ∧ Q (.ref C) (some d) (upd (del H2 a) d (.xd fs))) (fun _ _ _ => False)
theorem z_mko {Q : XK} (q : t σ H fun vs H1 => zMkO C sp dvs vs H1 Q) : tMkO C sp dvs t σ H Q := q
theorem z_exo1 {c f : Str} {u : V} {Q : XK} (k : ∀ (d : Addr) (H' : Hp), Same H H' → H' d = some (.xd [(f, u)]) → Q (.ref (He.ga K c)) (some d) H') : zMkO (He.ga K c) (sp2 (fs_ex1 K c f)) [] [u] H Q :=
  ⟨by show 1 ≤ 1000; decide, fun a ha => ⟨_, _, rfl, a, H, rfl, rfl, ha, fun d H' e1 e2 hd s => ⟨rfl, d, _, e1, e2, hd, k d _ s upd_same⟩⟩⟩
end
end Z
namespace Z
open PySem PySem.Spec PyProof.Rows L2
section
variable {K : Frag} {σ : L2.St} {H : Hp} {Q : VK} {ta : TE} {t : TA} {g : TG}
/-- a tuple, a list just made -/
theorem z_newT {xs : List V} (hn : xs.length ≤ 16777216) (k : ∀ p, H p = none → Same H (upd H p (.tup xs)) → upd H p (.tup xs) p = some (.tup xs) → Q (.ref p) (upd H p (.tup xs))) : xs.length ≤ sizeLine ∧ ∀ p, H p = none → Q (.ref p) (upd H p (.tup xs)) :=
  z_new (t := .tup) hn k
theorem z_gn {i : Nat} {v : V} {D : L2.St → Hp → Prop} (q : D (σ.set i (some v)) H) : gName i v σ H D := q
theorem z_gcons {u : TGs} {v : V} {vs : List V} {D : L2.St → Hp → Prop} (q : g v σ H fun σ' H' => u vs σ' H' D) : gCons g u (v :: vs) σ H D := ⟨v, vs, rfl, q⟩
theorem z_gnil {D : L2.St → Hp → Prop} (q : D σ H) : gNil [] σ H D := ⟨rfl, q⟩
/-- a tuple taken apart -/
theorem z_gtup {D : L2.St → Hp → Prop} {p : Addr} {xs : List V} {n : Nat} {ts : TGs} (h : H p = some (.tup xs)) (hl : xs.length = n) (q : ts xs σ H D) : gTup K n ts (.ref p) σ H D := ⟨p, xs, rfl, SqT.of h, hl, q⟩
/-- two ends: a tuple of two tuples -/
def IsE (H : Hp) (e : Addr) (lt lb ht hb : Int) : Prop := ∃ a b, H e = some (.tup [.ref a, .ref b]) ∧ H a = some (.tup [.int lt, .int lb]) ∧ H b = some (.tup [.int ht, .int hb])
theorem IsE.mono {H' : Hp} {e : Addr} {lt lb ht hb : Int} (s : Same H H') (h : IsE H e lt lb ht hb) : IsE H' e lt lb ht hb := by
  obtain ⟨a, b, h1, h2, h3⟩ := h
  exact ⟨a, b, s _ _ h1, s _ _ h2, s _ _ h3⟩
def zNewT (xs : List V) (H : Hp) (Q : VK) : Prop := xs.length ≤ sizeLine ∧ ∀ p, H p = none → Q (.ref p) (upd H p (.tup xs))
def zNewL (xs : List V) (H : Hp) (Q : VK) : Prop := xs.length ≤ sizeLine ∧ ∀ p, H p = none → Q (.ref p) (upd H p (.lst xs))
theorem z_tupN (q : t σ H fun xs H1 => zNewT xs H1 Q) : tTup t σ H Q := q
theorem z_lstN (q : t σ H fun xs H1 => zNewL xs H1 Q) : tLst t σ H Q := q
theorem z_asgG {te : TE} {D : Ends} (q : te σ H fun x H1 => g x σ H1 D.nx) : tAsg te g D σ H := q
/-- the new heap under its own name -/
theorem z_nt {xs : List V} (hn : xs.length ≤ 16777216) (k : ∀ p H', H p = none → Same H H' → H' p = some (.tup xs) → Q (.ref p) H') : zNewT xs H Q :=
  z_newT hn fun p h1 h2 h3 => k p _ h1 h2 h3
end
end Z
set_option maxHeartbeats 4000000
/-! lists just made, powers, keyword calls, caught exceptions, sizes of reduced parts -/
namespace Z
open PySem PySem.Spec PyProof.Rows L2
section
variable {K : Frag} {σ : L2.St} {H : Hp} {Q : VK} {te : TE} {t tk : TA} {sp : Sp} {E : XK}
theorem z_nlR {xs : List V} (hn : xs.length ≤ 16777216) (k : ∀ p H', H p = none → Same H H' → H' p = some (.lst xs) → Q (.ref p) H') : zNewL xs H Q :=
  z_new (t := .lst) hn fun p h1 h2 h3 => k p _ h1 h2 h3
theorem z_p6 (q : Q (.int 1000000) H) : zPow (.int 10) (.int 6) H Q := z_pow ⟨by decide, by decide, by decide⟩ q
theorem z_p12 (q : Q (.int 1000000000000) H) : zPow (.int 10) (.int 12) H Q := z_pow ⟨by decide, by decide, by decide⟩ q
theorem z_p13 (q : Q (.int 10000000000000) H) : zPow (.int 10) (.int 13) H Q := z_pow ⟨by decide, by decide, by decide⟩ q
theorem z_calln {n m : Nat} {gV : List V → List V → List V} (q : t σ H fun vs H1 => tk σ H1 fun zs H2 => vs.length = n ∧ zs.length = m ∧ sp (gV vs zs) H2 Q E) : tCallN n m sp gV E t tk σ H Q := q
/-- a field of the caught exception -/
def zXf (a : Addr) (cls : Value) (d : Option Addr) (C : Addr) (f : Str) (x : V) (H : Hp) (Q : VK) : Prop := x = .ref a ∧ cls = .ref C ∧ ∃ (dd : Addr) (fs : List (Str × V)) (v : V), d = some dd ∧ H dd = some (.xd fs) ∧ fs.lookup f = some v ∧ Q v H
theorem z_xfS {a : Addr} {cls : Value} {d : Option Addr} {C : Addr} {f : Str} (q : te σ H fun x H1 => zXf a cls d C f x H1 Q) : tXf a cls d C f te σ H Q := q
theorem z_xf {a d C : Addr} {f : Str} {fs : List (Str × V)} {v : V} (h : H d = some (.xd fs)) (l : fs.lookup f = some v) (q : Q v H) : zXf a (.ref C) (some d) C f (.ref a) H Q := ⟨rfl, rfl, d, fs, v, rfl, h, l, q⟩
/-- isinstance of the caught exception -/
theorem z_isX {a d D C : Addr} {fs : List (Str × V)} {b : Bool} (h : H d = some (.xd fs)) (hk : PySem.W.kitOne K (.ref D) (.ref C) = some b) (q : Q (.bl b) H) :
    (.ref D : Value) = .ref D ∧ (∀ dd, some d = some dd → ∃ fs, H dd = some (.xd fs)) ∧ rIsX K D a [.ref a, .ref C] H Q :=
  ⟨rfl, fun dd e => by cases e; exact ⟨fs, h⟩, _, _, b, rfl, .own C, hk, q⟩
/-- a caught exception goes into the clause -/
theorem z_as {cls c : Value} {i : Nat} {ts : Addr → Value → Option Addr → TS} {Wout : WX} {D : Ends} {d : Option Addr} (hk : PySem.W.exmOne K cls c = some true)
    (q : ∀ a, H a = none → ts a cls d { nx := fun σ' H' => D.nx (σ'.set i none) H', rt := D.rt, bk := fun σ' H' => D.bk (σ'.set i none) H', ct := fun σ' H' => D.ct (σ'.set i none) H' } (σ.set i (some (.ref a))) H) : wAs K c i ts Wout D cls d σ H :=
  ⟨true, hk, fun _ => q, fun z => nomatch z⟩
/-! sizes -/
end
/-- indexing, the fragment under its own name -/
theorem ix_seqK {X : Cx} {K : Frag} (h : X.K = K) : IxR X (rIx K) := by subst h; exact ix_seq
/-- the law's promise -/
def fs_law (K : Frag) : F1 := fun a H Q _ => ∃ (p : Addr) (ns : List Int), a = .ref p ∧ SqL K H p (ns.map V.int) ∧ ns.length ≤ 63 ∧ ∀ H', Q (.bl true) H'
theorem law_quiet {P : Program} {w : World} {K : Frag} {mg : Str → Option Value} {base : Heap} {j k : Nat} {f : Addr} {fd : FuncData} {ps : List Str} (F : FnOk P w K mg base (L2N.CX P w) j f fd ps (sp1 (fs_law K))) (h : j ≤ k) : FnOk P w K mg base L2.CX0 k f fd ps (sp1 (fs_law K)) :=
  (fn_quiet F fun _ _ _ _ h => h).mono h
theorem cut63 {ns : List Int} (h : ns.length ≤ 63) : cutV (ns.map V.int) none (some 63) = ns.map V.int := by
  have hl : (ns.map V.int).length ≤ 63 := by rw [List.length_map]; exact h
  generalize ns.map V.int = xs at *
  have e : HT.sIx xs.length xs.length (some 63) = xs.length := by
    have q := HT.sIx_nat xs.length xs.length 63
    rw [show ((63 : Nat) : Int) = 63 from rfl] at q
    rw [q]
    omega
  unfold cutV
  rw [e, HT.sIx_none, Nat.sub_zero, List.drop_zero, List.take_length]
end Z
set_option maxHeartbeats 4000000
/-! lists: joined, repeated, stored into, made anew by comprehensions, walked by loops; fields as targets -/
namespace Z
open PySem PySem.Spec PyProof.Rows L2
section
variable {X : Cx}
/-- o.f as one of several targets -/
def gFld (K : Frag) (ta : TE) (f : Str) : TG := fun v σ H Q => ta σ H fun x H1 => ∃ a C dx fs, x = .ref a ∧ H1 a = some (.ins C dx fs) ∧ Cls K C ∧ NoAttr K C f ∧ fs.length < 1000 ∧ Q σ (upd H1 a (.ins C dx (putF f v fs)))
theorem pg_att {o : Expr} {f : Str} {ta : TE} {pos : Pos} (ha : PE X o ta) : PG X (.Attribute o f pos) (gFld X.K ta f) := by
  refine ⟨fun pins s σ H v u Q I r h => ?_⟩
  refine PySem.W.kas_attr (thn (ha.run pins s σ H _ I h) fun ov s2 ⟨x, H2, I2, rx, a, C, dx, fs, ex, ea, c, n, l, q2⟩ => ?_)
  subst ex
  obtain rfl : ov = Value.ref a := rx
  exact setattr_ok I2 ea c n l r fun s3 I3 => ⟨σ, _, I3, q2⟩
def zCat : R2 := rOr zAdd rCat
def zRep : R2 := rOr zMul rRep
theorem o_cat : OpR X (binaryOp .Add) zCat := op_or2 o_add op_cat
theorem o_rep : OpR X (binaryOp .Mult) zRep := op_or2 o_mul op_rep
end
section
variable {K : Frag} {σ : L2.St} {H : Hp} {Q : VK} {a b : Addr} {xs ys : List V}
theorem lkA {f : Str} {v : V} {r : List (Str × V)} : ((f, v) :: r).lookup f = some v := by rw [lookup_put, if_pos rfl]
theorem lkB {f g : Str} {u v : V} {r : List (Str × V)} (h : ¬ f = g) (l : r.lookup f = some v) : ((g, u) :: r).lookup f = some v := by rw [lookup_put, if_neg h]; exact l
theorem z_catI {i j : Int} (q : Q (.int (i + j)) H) : zCat (.int i) (.int j) H Q := .inl (z_add q)
theorem z_cat (h1 : H a = some (.lst xs)) (h2 : H b = some (.lst ys)) (hn : xs.length + ys.length ≤ 16777216) (k : ∀ p H', H p = none → Same H H' → H' p = some (.lst (xs ++ ys)) → Q (.ref p) H') : zCat (.ref a) (.ref b) H Q :=
  .inr ⟨a, b, xs, ys, rfl, rfl, h1, h2, by rw [sizeLine_eq]; exact hn, fun p hp => k p _ hp (Same.new hp) upd_same⟩
theorem z_repL {i j : Int} (h1 : -18446744073709551616 < i) (h2 : i < 18446744073709551616) (q : Q (.int (i * j)) H) : zRep (.int i) (.int j) H Q := .inl (z_mulL h1 h2 q)
theorem z_repR {i j : Int} (h1 : -18446744073709551616 < j) (h2 : j < 18446744073709551616) (q : Q (.int (i * j)) H) : zRep (.int i) (.int j) H Q := .inl (z_mulR h1 h2 q)
/-- [x] * n -/
theorem z_rep1 {x : V} {n : Int} (h : H a = some (.lst [x])) (h1 : -9223372036854775808 ≤ n) (h2 : n ≤ 16777216) (k : ∀ p H', H p = none → Same H H' → H' p = some (.lst (List.replicate n.toNat x)) → Q (.ref p) H') : zRep (.ref a) (.int n) H Q := by
  refine .inr ⟨a, n, _, rfl, rfl, h, by omega, by omega, ?_, fun p hp => ?_⟩
  · rw [sizeLine_eq]
    show 1 * n.toNat ≤ 16777216
    omega
  · have e : (List.replicate n.toNat [x]).flatten = List.replicate n.toNat x := by simp
    rw [e]
    exact k p _ hp (Same.new hp) upd_same
/-- len, list(), tuple(), any() of a list -/
theorem z_lenLst (h : H a = some (.lst xs)) (q : Q (.int (xs.length : Int)) H) : rLen1 K [.ref a] H Q := z_lenL (SqL.of h) q
def rList1 (K : Frag) : List V → Hp → VK → Prop := fun vs H Q => ∃ p ys, vs = [.ref p] ∧ (SqL K H p ys ∨ SqT K H p ys) ∧ ∀ l, H l = none → Q (.ref l) (upd H l (.lst ys))
theorem z_listL (h : SqL K H a xs) (k : ∀ p H', H p = none → Same H H' → H' p = some (.lst xs) → Q (.ref p) H') : rList1 K [.ref a] H Q := ⟨a, xs, rfl, .inl h, fun p hp => k p _ hp (Same.new hp) upd_same⟩
theorem z_listT (h : H a = some (.tup xs)) (k : ∀ p H', H p = none → Same H H' → H' p = some (.lst xs) → Q (.ref p) H') : rList1 K [.ref a] H Q := ⟨a, xs, rfl, .inr (SqT.of h), fun p hp => k p _ hp (Same.new hp) upd_same⟩
theorem o_list1 {X : Cx} : CallR X (.type "list") (rList1 X.K) := call_list_of
def rTup1 (K : Frag) : List V → Hp → VK → Prop := fun xs H Q => ∃ p ys, xs = [.ref p] ∧ ((SqL K H p ys ∧ ∀ l, H l = none → Q (.ref l) (upd H l (.tup ys))) ∨ (SqT K H p ys ∧ Q (.ref p) H))
theorem z_allB {bs : List Bool} (h : H a = some (.lst (bs.map V.bl))) (q : Q (.bl (bs.all id)) H) : rAll K [.ref a] H Q := ⟨a, bs, rfl, SqL.of h, q⟩
theorem z_minL {ns : List Int} (h : H a = some (.lst (ns.map V.int))) (h0 : 0 < ns.length) (q : ∀ m, m ∈ ns → (∀ y, y ∈ ns → m ≤ y) → Q (.int m) H) : rMin K [.ref a] H Q := ⟨a, ns, rfl, SqL.of h, h0, q⟩
/-- a slice of a list -/
theorem z_sll {lo hi : Option Int} (h : H a = some (.lst xs)) (k : ∀ p H', H p = none → Same H H' → H' p = some (.lst (cutV xs lo hi)) → Q (.ref p) H') : rSlL K (.ref a) lo hi H Q := ⟨a, xs, rfl, SqL.of h, fun p hp => k p _ hp (Same.new hp) upd_same⟩
theorem z_tsl {r : V → Option Int → Option Int → Hp → VK → Prop} {te : TE} {tl th : TO} (q : te σ H fun x H1 => tl σ H1 fun l H2 => th σ H2 fun u H3 => r x l u H3 Q) : tSl r te tl th σ H Q := q
theorem z_np {QO : Option Int → Hp → Prop} (q : QO none H) : tNoPart σ H QO := q
theorem z_pt {te : TE} {QO : Option Int → Hp → Prop} (q : te σ H fun x H1 => ∃ i, x = .int i ∧ QO (some i) H1) : tPart te σ H QO := q
theorem z_pti {i : Int} {P : Int → Prop} (q : P i) : ∃ j, V.int i = .int j ∧ P j := ⟨i, rfl, q⟩
theorem cut_hi {n : Nat} {xs : List V} : cutV xs none (some (n : Int)) = xs.take n := by
  unfold cutV
  rw [HT.sIx_nat, HT.sIx_none, Nat.sub_zero, List.drop_zero]
  by_cases h : n ≤ xs.length
  · rw [Nat.min_eq_left h]
  · rw [Nat.min_eq_right (by omega), List.take_length, List.take_of_length_le (by omega)]
/-- a place in a list of numbers -/
theorem at_int {ns : List Int} {k : Int} {v : Int} (h0 : 0 ≤ k) (h : ns[k.toNat]? = some v) : atI (ns.map V.int) k = some (.int v) := by
  obtain ⟨n, rfl⟩ := Int.eq_ofNat_of_zero_le h0
  refine atI_nat ?_
  rw [List.getElem?_map]
  have : ns[n]? = some v := h
  rw [this]
  rfl
end
/-! ### comprehensions -/
section
variable {K : Frag} {σ : L2.St} {H1 : Hp} {Q : VK} {te : TE} {i j : Nat} {t : TA}
/-- what a comprehension's body is to give: the new list at D within -/
def zLc (J : It) (g : TG) (tt : TT) (te : TE) (vs : List Nat) (σ : L2.St) (H1 : Hp) (Q : VK) : Prop := ∀ D, H1 D = none → ∃ W : Nat → Nat → Hp → Prop, (∃ m, W 0 m (upd H1 D (.lst []))) ∧ ∀ i m H, W i m H →
  (J.stop i H ∧ Q (.ref D) H) ∨ (J.go i H ∧ ∃ Nx : Hp → Prop, (∀ H', Nx H' → ∃ m', m' < m ∧ W (i + 1) m' H') ∧ ∀ x H', J.yld i H x H' → g x (wipe σ vs) H' fun σ2 H2 => wipe σ2 vs = wipe σ vs ∧ tt σ2 H2 fun b H3 =>
    if b = true then te σ2 H3 fun y H4 => ∃ acc, H4 D = some (.lst acc) ∧ acc.length < sizeLine ∧ Nx (upd H4 D (.lst (acc ++ [y]))) else Nx H3)
/-- each turn gives f of its number, all that stood stands -/
theorem z_lcF {J : It} {n : Nat} {G : Hp → Prop} {Y : Nat → Hp → V → Hp → Prop} {g : TG} {vs : List Nat} (w : Walk J n G Y) (f : Nat → V) (hn : n ≤ 16777216) (hG : ∀ H', Same H1 H' → G H')
    (hs : ∀ k x H H' (N : VK), k < n → Same H1 H → Y k H x H' → (∀ H4, Same H H4 → N (f k) H4) → g x (wipe σ vs) H' fun σ2 H2 => wipe σ2 vs = wipe σ vs ∧ te σ2 H2 N)
    (k : ∀ D H', H1 D = none → Same H1 H' → H' D = some (.lst ((List.range n).map f)) → Q (.ref D) H') : zLc J g tYes te vs σ H1 Q := fun D hD => by
  refine lc_it w (fun i H => Same H1 H ∧ H D = some (.lst ((List.range i).map f))) ⟨Same.new hD, upd_same⟩ (fun i H hi p => hG H p.1) (fun i x H H' hi p y => ?_) (fun H p => k D H hD p.1 p.2)
  refine hs i x H H' _ hi p.1 y (fun H4 s4 => ?_)
  refine ⟨_, s4 _ _ p.2, ?_, ?_, ?_⟩
  · rw [List.length_map, List.length_range, sizeLine_eq]
    omega
  · intro b o hb
    rw [upd_ne (ne_of_none hb hD)]
    exact s4 _ _ (p.1 _ _ hb)
  · rw [upd_same, List.range_succ, List.map_append]
    rfl
def zLcL (K : Frag) (g : TG) (tt : TT) (te : TE) (vs : List Nat) (σ : L2.St) (x : V) (H1 : Hp) (Q : VK) : Prop := ∃ a, x = .ref a ∧ (∃ xs, SqL K H1 a xs) ∧ zLc (Itl K a) g tt te vs σ H1 Q
theorem z_lcS {g : TG} {tt : TT} {t : TE} {vs : List Nat} (q : t σ H1 fun x H2 => zLcL K g tt te vs σ x H2 Q) : tLc (iList K t) g tt te vs σ H1 Q := q
/-- over a list of numbers: each number's f -/
theorem z_lcI {a : Addr} {ns : List Int} (f : Int → V) {vs : List Nat} (h : H1 a = some (.lst (ns.map V.int))) (hn : ns.length ≤ 16777216)
    (hs : ∀ n H (N : VK), n ∈ ns → Same H1 H → (∀ H4, Same H H4 → N (f n) H4) → wipe ((wipe σ vs).set i (some (.int n))) vs = wipe σ vs ∧ te ((wipe σ vs).set i (some (.int n))) H N)
    (k : ∀ D H', H1 D = none → Same H1 H' → H' D = some (.lst (ns.map f)) → Q (.ref D) H') : zLcL K (gName i) tYes te vs σ (.ref a) H1 Q := by
  refine ⟨a, rfl, ⟨_, SqL.of h⟩, ?_⟩
  have e : (List.range (ns.map V.int).length).map (fun k => f (ns.getD k 0)) = ns.map f := by
    refine List.ext_getElem (by simp) (fun k h1 h2 => ?_)
    have : k < ns.length := by simpa using h2
    simp [List.getD_eq_getElem?_getD, this]
  refine z_lcF (walk_list (K := K) (a := a) (xs := ns.map V.int)) (fun k => f (ns.getD k 0)) (by simpa using hn) (fun H' s => SqL.of (s _ _ h)) (fun k x H H' N hk s y c => ?_) (fun D H' hD s hl => k D H' hD s (e ▸ hl))
  obtain ⟨rfl, hx⟩ := y
  have hk' : k < ns.length := by simpa using hk
  rw [List.getElem?_map, List.getElem?_eq_getElem hk'] at hx
  have hx' : V.int ns[k] = x := Option.some.inj hx
  subst hx'
  have e2 : ns.getD k 0 = ns[k] := by simp [List.getD_eq_getElem?_getD, hk']
  rw [e2] at c
  exact hs _ H' N (List.getElem_mem hk') s c
/-- over a range -/
def zLcR (g : TG) (tt : TT) (te : TE) (vs : List Nat) (σ : L2.St) (xs : List V) (H1 : Hp) (Q : VK) : Prop := ∃ j : Int, xs = [.int j] ∧ -(2 ^ 62) ≤ j ∧ j < 2 ^ 62 ∧ zLc (Itr 0 j.toNat) g tt te vs σ H1 Q
theorem z_lcRS {g : TG} {tt : TT} {t : TA} {vs : List Nat} (q : t σ H1 fun xs H2 => zLcR g tt te vs σ xs H2 Q) : tLc (iRng1 t) g tt te vs σ H1 Q := q
theorem z_lcR {n : Int} (f : Nat → V) {vs : List Nat} (h1 : -4611686018427387904 ≤ n) (h2 : n ≤ 16777216)
    (hs : ∀ (k : Nat) H (N : VK), k < n.toNat → Same H1 H → (∀ H4, Same H H4 → N (f k) H4) → wipe ((wipe σ vs).set i (some (.int k))) vs = wipe σ vs ∧ te ((wipe σ vs).set i (some (.int k))) H N)
    (k : ∀ D H', H1 D = none → Same H1 H' → H' D = some (.lst ((List.range n.toNat).map f)) → Q (.ref D) H') : zLcR (gName i) tYes te vs σ [.int n] H1 Q := by
  refine ⟨n, rfl, by omega, by omega, ?_⟩
  refine z_lcF (walk_range (lo := 0) (n := n.toNat)) f (by omega) (fun _ _ => trivial) (fun k x H H' N hk s y c => ?_) k
  obtain ⟨rfl, rfl⟩ := y
  have e : (0 : Int) + (k : Int) = k := Int.zero_add _
  dsimp only
  rw [e]
  exact hs k H' N hk s c
/-- over two lists of numbers at once -/
def zLcZ (K : Frag) (g : TG) (tt : TT) (te : TE) (vs : List Nat) (σ : L2.St) (xs : List V) (H1 : Hp) (Q : VK) : Prop := ∃ a b ys zs, xs = [.ref a, .ref b] ∧ SqL K H1 a ys ∧ SqL K H1 b zs ∧ zLc (Itz K a b) g tt te vs σ H1 Q
theorem z_lcZS {g : TG} {tt : TT} {t : TA} {vs : List Nat} (q : t σ H1 fun xs H2 => zLcZ K g tt te vs σ xs H2 Q) : tLc (iZip K t) g tt te vs σ H1 Q := q
/-- a loop over a list of numbers: I by the turn -/
def zFoL (K : Frag) (g : TG) (tb : TS) (D : Ends) (σ : L2.St) (x : V) (H1 : Hp) : Prop := ∃ a, x = .ref a ∧ (∃ xs, SqL K H1 a xs) ∧ ∃ W : Nat → Nat → L2.St → Hp → Prop, (∃ m, W 0 m σ H1) ∧ ∀ k m σ H, W k m σ H →
    ((Itl K a).stop k H ∧ D.nx σ H) ∨ ((Itl K a).go k H ∧ ∃ N : L2.St → Hp → Prop, (∀ σ' H', N σ' H' → ∃ m', m' < m ∧ W (k + 1) m' σ' H') ∧ ∀ x H', (Itl K a).yld k H x H' → g x σ H' fun σ2 H2 => tb { D with nx := N, ct := N, bk := D.nx } σ2 H2)
theorem z_foS {g : TG} {tb : TS} {D : Ends} {t : TE} (q : t σ H1 fun x H2 => zFoL K g tb D σ x H2) : tFor (iList K t) g tb D σ H1 := q
theorem z_foV {g : TG} {tb : TS} {D : Ends} {a : Addr} {xs : List V} (h : H1 a = some (.lst xs)) (I : Nat → L2.St → Hp → Prop) (h0 : I 0 σ H1) (hl : ∀ k σ H, I k σ H → H a = some (.lst xs))
    (hs : ∀ k x σ H, xs[k]? = some x → I k σ H → g x σ H fun σ2 H2 => tb { D with nx := I (k + 1), ct := I (k + 1), bk := D.nx } σ2 H2) (hd : ∀ σ H, I xs.length σ H → D.nx σ H) : zFoL K g tb D σ (.ref a) H1 :=
  ⟨a, rfl, ⟨_, SqL.of h⟩, for_it (walk_list (K := K) (a := a) (xs := xs)) I h0 (fun k σ H _ p => SqL.of (hl k σ H p)) (fun k x σ H H' _ p y => by
    obtain ⟨rfl, hx⟩ := y
    exact hs k x σ H' hx p) hd⟩
/-- a loop over range(n): I by the turn -/
def zFoR (g : TG) (tb : TS) (D : Ends) (σ : L2.St) (vs : List V) (H1 : Hp) : Prop := ∃ j : Int, vs = [.int j] ∧ -(2 ^ 62) ≤ j ∧ j < 2 ^ 62 ∧ ∃ W : Nat → Nat → L2.St → Hp → Prop, (∃ m, W 0 m σ H1) ∧ ∀ k m σ H, W k m σ H →
    ((Itr 0 j.toNat).stop k H ∧ D.nx σ H) ∨ ((Itr 0 j.toNat).go k H ∧ ∃ N : L2.St → Hp → Prop, (∀ σ' H', N σ' H' → ∃ m', m' < m ∧ W (k + 1) m' σ' H') ∧ ∀ x H', (Itr 0 j.toNat).yld k H x H' → g x σ H' fun σ2 H2 => tb { D with nx := N, ct := N, bk := D.nx } σ2 H2)
theorem z_for1 {g : TG} {tb : TS} {D : Ends} (q : t σ H1 fun vs H2 => zFoR g tb D σ vs H2) : tFor (iRng1 t) g tb D σ H1 := q
theorem z_foR {g : TG} {tb : TS} {D : Ends} {n : Int} (h1 : -4611686018427387904 ≤ n) (h2 : n < 4611686018427387904) (I : Nat → L2.St → Hp → Prop) (h0 : I 0 σ H1)
    (hs : ∀ (k : Nat) σ H, k < n.toNat → I k σ H → g (.int k) σ H fun σ2 H2 => tb { D with nx := I (k + 1), ct := I (k + 1), bk := D.nx } σ2 H2) (hd : ∀ σ H, I n.toNat σ H → D.nx σ H) : zFoR g tb D σ [.int n] H1 :=
  ⟨n, rfl, by omega, by omega, for_it (walk_range (lo := 0) (n := n.toNat)) I h0 (fun _ _ _ _ _ => trivial) (fun k x σ H H' hk p y => by
    obtain ⟨rfl, rfl⟩ := y
    have e : (0 : Int) + (k : Int) = k := Int.zero_add _
    dsimp only
    rw [e]
    exact hs k σ H' hk p) hd⟩
end
/-! rules with the fragment under its own name (within a comprehension its context must not show) -/
section
variable {X : Cx} {K : Frag} {f : Value}
theorem callK (r : Frag → List V → Hp → VK → Prop) (h : X.K = K) (c : CallR X f (r X.K)) : CallR X f (r K) := by subst h; exact c
theorem slK (r : Frag → V → Option Int → Option Int → Hp → VK → Prop) (h : X.K = K) (c : SlR X (r X.K)) : SlR X (r K) := by subst h; exact c
theorem pe_fldK {e : Expr} {ta : TE} {x : Str} {pos : Pos} (h : X.K = K) (he : PE X e ta) (hb : attributeBase e x X.env (eval e X.env) = eval e X.env) : PE X (.Attribute e x pos) (tFld K ta x) := by subst h; exact pe_fld he hb
theorem pi_listK {tg l : Expr} {tl : TE} (h : X.K = K) (hl : PE X l tl) : PI X tg l (iList K tl) := by subst h; exact pi_list hl
theorem pi_tupK {tg l : Expr} {tl : TE} (h : X.K = K) (hl : PE X l tl) : PI X tg l (iTup K tl) := by subst h; exact pi_tup hl
theorem pg_attK {o : Expr} {x : Str} {ta : TE} {pos : Pos} (h : X.K = K) (ha : PE X o ta) : PG X (.Attribute o x pos) (gFld K ta x) := by subst h; exact pg_att ha
theorem piK {tg e : Expr} (w : Frag → TI) (h : X.K = K) (c : PI X tg e (w X.K)) : PI X tg e (w K) := by subst h; exact c
theorem pgK {tg : Expr} (w : Frag → TG) (h : X.K = K) (c : PG X tg (w X.K)) : PG X tg (w K) := by subst h; exact c
end
end Z
namespace Z
open PySem PySem.Spec PyProof.Rows L2
section
variable {K : Frag} {σ : L2.St} {H H' H1 : Hp} {Q : VK} {a p : Addr} {o : HO}
theorem z_isNI {i : Int} (q : Q (.bl false) H) : zIsN (.int i) .non H Q := z_isN (by simpa using q)
theorem z_isNN (q : Q (.bl true) H) : zIsN .non .non H Q := z_isN (by simpa using q)
theorem z_isNb (q : Q (.bl false) H) : zIsN (.ref a) .non H Q := z_isN (by simpa using q)
theorem z_notNI {i : Int} (q : Q (.bl true) H) : zNotN (.int i) .non H Q := z_notN (by simpa using q)
theorem z_notNN (q : Q (.bl false) H) : zNotN .non .non H Q := z_notN (by simpa using q)
theorem z_notNb (q : Q (.bl true) H) : zNotN (.ref a) .non H Q := z_notN (by simpa using q)
/-- o[i] = v -/
theorem z_gsub {to ti : TE} {t : TSet} {v : V} {D : L2.St → Hp → Prop} (q : to σ H fun o H1 => ti σ H1 fun i H2 => t o i v H2 fun H3 => D σ H3) : gSub to ti t v σ H D := q
theorem z_setL {xs : List V} {k : Int} {v : V} {j : Nat} {R : Hp → Prop} (h : H p = some (.lst xs)) (hj : (j : Int) = k) (hl : j < xs.length) (q : R (upd H p (.lst (xs.set j v)))) : rSetL (.ref p) (.int k) v H R := by
  subst hj
  refine ⟨p, xs, _, j, rfl, rfl, h, ?_, q⟩
  unfold ixN
  simp
  omega
/-- all stands but what lies at p -/
def But (p : Addr) (H H' : Hp) : Prop := ∀ a o, a ≠ p → H a = some o → H' a = some o
theorem But.at (e : But p H H') (ne : a ≠ p) (h : H a = some o) : H' a = some o := e a o ne h
theorem But.of (e : Same H H') : But p H H' := fun a o _ h => e a o h
theorem But.trans (e : But p H H1) (f : But p H1 H') : But p H H' := fun a o ne h => f a o ne (e a o ne h)
theorem But.set : But p H (upd H p o) := fun a _ ne h => by rw [upd_ne ne]; exact h
/-- a list of numbers -/
def IsPool (H : Hp) (p : Addr) : Prop := ∃ ns : List Int, H p = some (.lst (ns.map V.int))
theorem IsPool.mono (e : Same H H') (h : IsPool H p) : IsPool H' p := h.elim fun ns q => ⟨ns, e _ _ q⟩
theorem set_int {ns : List Int} {j : Nat} {v : Int} : (ns.map V.int).set j (.int v) = (ns.set j v).map V.int := (List.map_set).symm
end
end Z
namespace Z
open PySem PySem.Spec PyProof.Rows L2
theorem z_tup1L {K : Frag} {H : Hp} {Q : VK} {a : Addr} {xs : List V} (h : H a = some (.lst xs)) (k : ∀ p H', H p = none → Same H H' → H' p = some (.tup xs) → Q (.ref p) H') : rTup1 K [.ref a] H Q :=
  ⟨a, xs, rfl, .inl ⟨SqL.of h, fun p hp => k p _ hp (Same.new hp) upd_same⟩⟩
end Z
namespace Z
open PySem PySem.Spec PyProof.Rows L2
section
variable {K : Frag} {σ : L2.St} {H : Hp} {Q : VK} {p C dx : Addr} {fs : List (Str × V)} {i : Nat} {f : Str} {v : V} {D : L2.St → Hp → Prop}
theorem z_gfld (c : Cls K C) (n : NoAttr K C f) (hs : σ[i]? = some (some (.ref p))) (h : H p = some (.ins C dx fs)) (hl : fs.length < 1000) (q : D σ (upd H p (.ins C dx (putF f v fs)))) : gFld K (tVar i) f v σ H D := ⟨_, hs, p, C, dx, fs, rfl, h, c, n, hl, q⟩
def zSfl (K : Frag) (i : Nat) (f : Str) (E : Ends) (σ : L2.St) (y : V) (H1 : Hp) : Prop := tVar i σ H1 fun x H2 => ∃ a C dx fs, x = .ref a ∧ H2 a = some (.ins C dx fs) ∧ Cls K C ∧ NoAttr K C f ∧ fs.length < 1000 ∧ E.nx σ (upd H2 a (.ins C dx (putF f y fs)))
theorem z_sfl {tv : TE} {E : Ends} (q : tv σ H fun y H1 => zSfl K i f E σ y H1) : sFld K (tVar i) tv f E σ H := q
theorem z_sflp {E : Ends} (c : Cls K C) (n : NoAttr K C f) (hs : σ[i]? = some (some (.ref p))) (h : H p = some (.ins C dx fs)) (hl : fs.length < 1000) (q : E.nx σ (upd H p (.ins C dx (putF f v fs)))) : zSfl K i f E σ v H := ⟨_, hs, p, C, dx, fs, rfl, h, c, n, hl, q⟩
theorem z_fldG (c : Cls K C) (n : NoAttr K C f) (hs : σ[i]? = some (some (.ref p))) (h : H p = some (.ins C dx fs)) (l : fs.lookup f = some v) (q : Q v H) : tFld K (tVar i) f σ H Q := ⟨_, hs, p, C, dx, fs, v, rfl, h, c, n, l, q⟩
theorem pfB {g : Str} {u : V} {r : List (Str × V)} (h : ¬ g = f) : putF f v ((g, u) :: r) = (g, u) :: putF f v r := by
  show (if g = f then _ else _) = _
  rw [if_neg h]
theorem pfN : putF f v [] = [(f, v)] := rfl
/-- a store at a new object keeps all that was there before it -/
theorem Same.put {H0 H1 : Hp} {o : HO} (s : Same H0 H1) (h : H0 p = none) : Same H0 (upd H1 p o) := fun b u hb => by
  rw [upd_ne (ne_of_none hb h)]
  exact s b u hb
end
end Z
namespace Z
open PySem PySem.Spec PyProof.Rows L2
section
variable {K : Frag} {H H' : Hp} {Q : VK} {p a : Addr} {xs : List V}
theorem IsPool.of {ns : List Int} (h : H p = some (.lst (ns.map V.int))) : IsPool H p := ⟨ns, h⟩
end
end Z
namespace Z
open PySem PySem.Spec PyProof.Rows L2
theorem Same.none {H H' : Hp} {a : Addr} (s : Same H H') (h : H' a = Option.none) : H a = Option.none := by
  cases e : H a with
  | none => rfl
  | some o =>
    rw [s _ _ e] at h
    cases h
end Z
set_option maxHeartbeats 4000000
/-! append, more of isinstance -/
namespace Z
open PySem PySem.Spec PyProof.Rows L2
section
variable {K : Frag} {σ : L2.St} {H : Hp} {Q : VK} {t : TA} {i : Nat} {l : Addr} {xs : List V} {y : V}
/-- l.append(e) -/
theorem z_app (hs : σ[i]? = some (some (.ref l))) (h : H l = some (.lst xs)) (q : t σ H fun vs H1 => rAppend (.ref l) vs H1 Q) : tBM K "list" rAppend (tVar i) t σ H Q := ⟨_, hs, .inl ⟨rfl, _, SqL.of h⟩, q⟩
theorem z_ap (h : H l = some (.lst xs)) (hn : xs.length < 16777216) (q : Q .non (upd H l (.lst (xs ++ [y])))) : rAppend (.ref l) [y] H Q := ⟨l, xs, y, rfl, rfl, h, by rw [sizeLine_eq]; exact hn, q⟩
end
end Z
set_option maxHeartbeats 4000000
/-! lcm, comb, lists turned round -/
namespace Z
open PySem PySem.Spec PyProof.Rows L2
section
variable {X : Cx} {K : Frag}
/-- the numbers' sizes that lcm takes -/
def rLcm : List V → Hp → VK → Prop := fun vs H Q => ∃ a b : Int, vs = [.int a, .int b] ∧ a.natAbs < 2 ^ 6000 ∧ b.natAbs < 2 ^ 6000 ∧ Q (.int ((Nat.lcm a.natAbs b.natAbs : Nat) : Int)) H
theorem cr_lcm : CallR X (.builtin "math.lcm") rLcm := by
  intro pins s σ H vs us Q I r h
  obtain ⟨a, b, rfl, ha, hb, q⟩ := h
  obtain ⟨t, u, rfl⟩ := Vals.int2 r
  have h1 : (max 1 a.natAbs).log2 ≤ 5999 := PySem.W.mg_log (Nat.max_lt.mpr ⟨Nat.one_lt_two_pow (by decide), ha⟩)
  have h2 : (max a.natAbs b.natAbs).log2 ≤ 5999 := PySem.W.mg_log (Nat.max_lt.mpr ⟨ha, hb⟩)
  have e : Nat.lcm 1 a.natAbs = a.natAbs := Nat.lcm_one_left _
  have g := PySem.W.mg_run_lcm a t b u (by omega) (by omega) (by
    rw [e, Int.natAbs_natCast]
    have l1 : Nat.lcm a.natAbs b.natAbs ≤ a.natAbs * b.natAbs := Nat.div_le_self _ _
    have l2 : a.natAbs * b.natAbs < 2 ^ 12000 := by
      have : (2 : Nat) ^ 12000 = 2 ^ 6000 * 2 ^ 6000 := by rw [← Nat.pow_add]
      rw [this]
      exact Nat.mul_lt_mul'' ha hb
    have := PySem.W.mg_log (n := Nat.lcm a.natAbs b.natAbs) (k := 11999) (Nat.lt_of_le_of_lt l1 l2)
    unfold bitsLine
    omega)
  rw [e] at g
  exact call_function_meets PySem.W.MGF.kind_lcm PySem.W.MGF.plain_lcm PySem.W.MGF.entry_lcm (PySem.W.MGF.args_lcm _ _) g.meets ⟨.int _, H, I.tok _, ⟨_, rfl⟩, q⟩
end
end Z
set_option maxHeartbeats 4000000
/-! enumerate and zip over lists and tuples, mixed -/
namespace Z
open PySem PySem.Spec PyProof.Rows L2
/-- a list (false) or a tuple (true) -/
def SqK (K : Frag) (k : Bool) (H : Hp) (a : Addr) (xs : List V) : Prop := match k with
  | true => SqT K H a xs
  | false => SqL K H a xs
theorem SqK.L {K : Frag} {H : Hp} {a : Addr} {xs : List V} (h : H a = some (.lst xs)) : SqK K false H a xs := SqL.of h
theorem SqK.T {K : Frag} {H : Hp} {a : Addr} {xs : List V} (h : H a = some (.tup xs)) : SqK K true H a xs := SqT.of h
def ItK (k : Bool) (h : Heap) (it a : Addr) (i : Nat) : Prop := match k with
  | true => h.IsTupleIter it a i
  | false => h.IsListIter it a i
def HasK (k : Bool) (h : Heap) (a : Addr) (its : Array Value) : Prop := match k with
  | true => h.IsTuple a its
  | false => h.IsList a its
def obK (k : Bool) (a : Addr) : Obj := match k with
  | true => { cls := .type "tuple_iterator", data := .fields #[.ref a, .int 0 0] }
  | false => { cls := .type "list_iterator", data := .fields #[.ref a, .int 0 0] }
theorem begK (k : Bool) (a : Addr) (its : Array Value) : Begins (.ref a) (obK k a) fun h => HasK k h a its := by
  cases k
  · exact begins_list a its
  · exact begins_tuple a its
theorem itK0 {k : Bool} {h : Heap} {it a : Addr} (e : h.get? it = some (obK k a)) : ItK k h it a 0 := by
  cases k
  · exact ⟨_, e, rfl, rfl⟩
  · exact ⟨_, e, rfl, rfl⟩
theorem ItK.lt {k : Bool} {h : Heap} {it a : Addr} {i : Nat} (e : ItK k h it a i) : it < h.objs.size := by
  cases k
  · obtain ⟨o, q, _⟩ := e
    exact Heap.lt_size q
  · obtain ⟨o, q, _⟩ := e
    exact Heap.lt_size q
theorem ItK.obj {k : Bool} {h : Heap} {it a : Addr} {i : Nat} (e : ItK k h it a i) : ∃ o, h.get? it = some o ∧ ∀ v, o.data ≠ .cell v := by
  cases k
  · obtain ⟨o, q, _, d⟩ := e
    exact ⟨o, q, fun v z => by rw [d] at z; cases z⟩
  · obtain ⟨o, q, _, d⟩ := e
    exact ⟨o, q, fun v z => by rw [d] at z; cases z⟩
theorem ItK.keep {k : Bool} {h h' : Heap} {it a : Addr} {i : Nat} (e : ItK k h it a i) (kp : ∀ o, h.get? it = some o → h'.get? it = some o) : ItK k h' it a i := by
  cases k
  · exact e.at kp
  · exact e.at kp
theorem drwK {P : Program} {w : World} {A : Around} (k : Bool) (hh : A.handled = none) (it a : Addr) (hne : a ≠ it) (its : Array Value) :
    Draws P w A it [it, a] its.size (fun i v => its[i]? = some v) (fun i h => ItK k h it a i ∧ HasK k h a its) := by
  cases k
  · exact Draws.list hh it a hne its
  · exact Draws.tuple hh it a hne its
section
variable {X : Cx} {pins : List (Addr × Obj)} {σ : L2.St} {H : Hp} {s : Shared} {a : Addr} {xs : List V}
theorem inv_seqK {k : Bool} (I : Inv X pins σ H s) (h : SqK X.K k H a xs) : ∃ its : List Value, Vals xs its ∧ HasK k s.heap a its.toArray ∧ a < s.heap.objs.size := by
  cases k
  · obtain ⟨its, r, p, _⟩ := I.list h
    exact ⟨its, r, p.isList, p.lt⟩
  · obtain ⟨its, r, p, _⟩ := I.tuple h
    obtain ⟨o, ho, _⟩ := id p
    exact ⟨its, r, p, Heap.lt_size ho⟩
/-- one turn of an iterator that gives tuples -/
theorem turn_core {z : Addr} {fpW wr fp : List Addr} {n : Nat} {Pt : Nat → Array Value → Prop} {Sg : Nat → Heap → Prop} {Mid : Nat → Addr → Heap → Prop} {VS : List V → Prop} {i : Nat} {E : Value → Shared → Prop} {elts : List Expr} {kk : Nat} {tpos : Pos}
    (W : WalksT X.prog X.w X.A z fpW wr n Pt Sg Mid) (I : Inv X pins σ H s) (hf : ∀ b ∈ fp, FpOk X pins H b) (hlt : ∀ b ∈ fp, b < s.heap.objs.size) (hw : ∀ b ∈ wr, b ∈ fp) (hi : i < n) (st : Sg i s.heap)
    (hP : ∀ vals, Pt i vals → ∃ vs : List V, Vals vs vals.toList ∧ VS vs ∧ vs.length ≤ sizeLine) :
    wpAny (model X.prog X.w) X.A (pyNext (.ref z)) (fun r s1 => ∃ u, r = some u ∧
      wpAny (model X.prog X.w) X.A (letOwnedTupleGo (.Tuple elts kk tpos) (.ref z) u) (fun _ s2 => ∃ x H', Inv X pins σ H' s2 ∧ RelV x u ∧ (∃ T vs, x = .ref T ∧ H T = none ∧ H' = upd H T (.tup vs) ∧ VS vs) ∧ Sg (i + 1) s2.heap ∧ ∀ b ∈ fp, H' b = none) E s1) E s := by
  refine W.item i s _ _ hi st fun T vals h' tk p hT it mid kp => ⟨_, rfl, W.go elts kk tpos i T _ _ _ mid fun h'' st' kp' => ?_⟩
  obtain ⟨vs, rv, v, hz⟩ := hP vals p
  have kept : ∀ b o, b ∉ wr → s.heap.get? b = some o → h''.get? b = some o := fun b o nb e => kp' b o nb (kp b o nb e)
  have nT : T ∉ wr := W.apart i T h' mid
  obtain ⟨ot, e1, e2, m, e3⟩ := it
  have hf' : ∀ b ∈ wr, FpOk X pins H b := fun b hb => hf b (hw b hb)
  have new : ObjOk X.prog X.w (upd H T (.tup vs)) h'' T (.tup vs) := ⟨hz, vals.toList, rv, ⟨ot, kp' T ot nT e1, e2, m, by simpa using e3⟩⟩
  refine ⟨.ref T, _, I.turnedNew (ch := wr) kept hf' hT new, rfl, ⟨T, vs, rfl, I.hok.fresh hT, rfl, v⟩, st', fun b hb => ?_⟩
  have ne : b ≠ T := Nat.ne_of_lt (Nat.lt_of_lt_of_le (hlt b hb) hT)
  rw [upd_ne ne]
  exact (hf b hb).1
theorem end_core {z : Addr} {fpW wr fp : List Addr} {n : Nat} {Pt : Nat → Array Value → Prop} {Sg : Nat → Heap → Prop} {Mid : Nat → Addr → Heap → Prop} {E : Value → Shared → Prop}
    (W : WalksT X.prog X.w X.A z fpW wr n Pt Sg Mid) (I : Inv X pins σ H s) (hf : ∀ b ∈ fp, FpOk X pins H b) (hw : ∀ b ∈ wr, b ∈ fp) (st : Sg n s.heap) :
    wpAny (model X.prog X.w) X.A (pyNext (.ref z)) (fun r s1 => r = none ∧ Inv X pins σ H s1) E s :=
  W.done s _ _ st fun h' tk kp => ⟨rfl, I.turnedL (ch := wr) (fun b o hb e => kp b o hb e) fun b hb => hf b (hw b hb)⟩
end
/-! ### zip -/
def ItZ (K : Frag) (k1 k2 : Bool) (a b : Addr) (xs ys : List V) : It :=
  ⟨fun i H => SqK K k1 H a xs ∧ SqK K k2 H b ys ∧ i < min xs.length ys.length,
    fun i H v H' => ∃ T x y, v = .ref T ∧ H T = none ∧ H' = upd H T (.tup [x, y]) ∧ xs[i]? = some x ∧ ys[i]? = some y,
    fun i H => SqK K k1 H a xs ∧ SqK K k2 H b ys ∧ i = min xs.length ys.length⟩
theorem vals_at {xs : List V} {its : List Value} (r : Vals xs its) {i : Nat} {u : Value} (h : its.toArray[i]? = some u) : ∃ x, xs[i]? = some x ∧ RelV x u := by
  have hi : i < its.length := by
    by_cases c : i < its.length
    · exact c
    · rw [Array.getElem?_eq_none (by simpa using c)] at h
      cases h
  have hl := r.length
  have hx : xs[i]? = some (xs[i]'(by omega)) := List.getElem?_eq_getElem _
  obtain ⟨u2, e2, ru⟩ := r.get hx
  have : its.toArray[i]? = some u2 := by simpa using e2
  rw [h] at this
  cases this
  exact ⟨_, hx, ru⟩
def tnZ (k1 k2 : Bool) (a b z TI TO i1 i2 : Addr) (i : Nat) (h : Heap) : Prop := IsZip h z TI TO .none ∧ IsTupOf2 h TI (.ref i1) (.ref i2) ∧ (∃ u v, IsTupOf2 h TO u v) ∧ ItK k1 h i1 a i ∧ ItK k2 h i2 b i
theorem turn_zipM {P : Program} {w : World} {K : Frag} {elts : List Expr} {kk : Nat} {tpos : Pos} {k1 k2 : Bool} {a b z TI TO i1 i2 : Addr} {xs ys : List V} (S : ZipSep2 z TI TO i1 i2 [i1, a] [i2, b]) (ha : a ≠ i1) (hb : b ≠ i2) :
    Turn P w K (.Tuple elts kk tpos) (ItZ K k1 k2 a b xs ys) [z, TI, TO, i1, i2] z (tnZ k1 k2 a b z TI TO i1 i2) where
  mem := by simp
  obj := fun i h st c hc => by
    obtain ⟨hz, hTI, ⟨x, y, hTO⟩, h1, h2⟩ := st
    have e' : c = z ∨ c = TI ∨ c = TO ∨ c = i1 ∨ c = i2 := by simpa using hc
    rcases e' with rfl | rfl | rfl | rfl | rfl
    · exact ⟨_, hz, fun v q => nomatch q⟩
    · exact ⟨_, hTI, fun v q => nomatch q⟩
    · exact ⟨_, hTO, fun v q => nomatch q⟩
    · exact h1.obj
    · exact h2.obj
  keep := fun i h h' st k => by
    obtain ⟨hz, hTI, ⟨x, y, hTO⟩, h1, h2⟩ := st
    exact ⟨k z (by simp) _ hz, k TI (by simp) _ hTI, ⟨x, y, k TO (by simp) _ hTO⟩, h1.keep (k i1 (by simp)), h2.keep (k i2 (by simp))⟩
  item := by
    intro X hP hw hK hc i pins s σ H E I hf st hg
    subst hP hw hK
    obtain ⟨qx, qy, hi⟩ := hg
    obtain ⟨its, rv, p1, la⟩ := inv_seqK I qx
    obtain ⟨its2, rv2, p2, lb⟩ := inv_seqK I qy
    obtain ⟨hz, hTI, ⟨x, y, hTO⟩, h1, h2⟩ := st
    have hh : X.A.in1.handled = none := I.ok.hd hc
    have l1 := rv.length
    have l2 := rv2.length
    have W := WalksT.zipD2 S (drwK (P := X.prog) (w := X.w) k1 hh i1 a ha its.toArray) (drwK (P := X.prog) (w := X.w) k2 hh i2 b hb its2.toArray)
    refine wpAny_mono (turn_core (elts := elts) (kk := kk) (tpos := tpos) (fp := [z, TI, TO, i1, i2]) (VS := fun vs => ∃ u v, vs = [u, v] ∧ xs[i]? = some u ∧ ys[i]? = some v) W I hf ?_ (by simp) (i := i) (by simp; omega) ⟨hz, hTI, ⟨x, y, hTO⟩, ⟨h1, p1⟩, ⟨h2, p2⟩⟩ ?_) ?_ (fun _ _ e => e)
    · intro c hcm
      have e' : c = z ∨ c = TI ∨ c = TO ∨ c = i1 ∨ c = i2 := by simpa using hcm
      rcases e' with rfl | rfl | rfl | rfl | rfl
      · exact Heap.lt_size hz
      · exact Heap.lt_size hTI
      · exact Heap.lt_size hTO
      · exact h1.lt
      · exact h2.lt
    · rintro vals ⟨u, v, hu, hv, rfl⟩
      obtain ⟨x', ex, rx⟩ := vals_at rv hu
      obtain ⟨y', ey, ry⟩ := vals_at rv2 hv
      exact ⟨[x', y'], .cons rx (.cons ry .nil), ⟨_, _, rfl, ex, ey⟩, by show 2 ≤ sizeLine; decide⟩
    · rintro r s1 ⟨u, rfl, q⟩
      refine ⟨u, rfl, wpAny_mono q (fun _ s2 z2 => ?_) (fun _ _ e => e)⟩
      obtain ⟨x2, H', I2, r2, ⟨T, vs, e1, e2, e3, u3, v3, e4, e5, e6⟩, ⟨t1, t2, t3, ⟨t4, _⟩, ⟨t5, _⟩⟩, fr⟩ := z2
      subst e4
      exact ⟨x2, H', I2, r2, ⟨T, u3, v3, e1, e2, e3, e5, e6⟩, ⟨t1, t2, t3, t4, t5⟩, fr⟩
  done := by
    intro X hP hw hK hc i pins s σ H E I hf st hg
    subst hP hw hK
    obtain ⟨qx, qy, hi⟩ := hg
    obtain ⟨its, rv, p1, la⟩ := inv_seqK I qx
    obtain ⟨its2, rv2, p2, lb⟩ := inv_seqK I qy
    obtain ⟨hz, hTI, ⟨x, y, hTO⟩, h1, h2⟩ := st
    have hh : X.A.in1.handled = none := I.ok.hd hc
    have l1 := rv.length
    have l2 := rv2.length
    have W := WalksT.zipD2 S (drwK (P := X.prog) (w := X.w) k1 hh i1 a ha its.toArray) (drwK (P := X.prog) (w := X.w) k2 hh i2 b hb its2.toArray)
    have e : min its.toArray.size its2.toArray.size = i := by simp; omega
    rw [e] at W
    exact end_core (fp := [z, TI, TO, i1, i2]) W I hf (by simp) ⟨hz, hTI, ⟨x, y, hTO⟩, ⟨h1, p1⟩, ⟨h2, p2⟩⟩
  self := fun A i s Q E st h => wpAny_pyIter_zip st.1 h
def iZipM (K : Frag) (ta : TA) : TI := fun σ H R => ta σ H fun vs H1 => ∃ (k1 k2 : Bool) (a b : Addr) (xs ys : List V), vs = [.ref a, .ref b] ∧ SqK K k1 H1 a xs ∧ SqK K k2 H1 b ys ∧ R (ItZ K k1 k2 a b xs ys) H1
theorem vals2 {a b : Addr} {us : List Value} (r : Vals [V.ref a, V.ref b] us) : us = [Value.ref a, Value.ref b] := by
  cases r with
  | cons r1 r =>
    cases r with
    | cons r2 r =>
      cases r
      cases r1
      cases r2
      rfl
theorem pi_zipM {X : Cx} {e e2 : Expr} {ta : TA} {p pos tpos : Pos} {elts : List Expr} {kk : Nat} (hg : Gl X "zip") (hm : X.mg "zip" = none) (ha : PA X [e, e2] ta)
    (hs : starEach [e, e2] X.env = (false, eval e X.env) :: starEach [e2] X.env := by rfl) (hpl : (backTo pos (starEach [e2] X.env)).any (·.1) = false := by rfl) :
    PI X (.Tuple elts kk tpos) (.Call (.Name "zip" p) [e, e2] [] pos) (iZipM X.K ta) := by
  refine ⟨fun pins s σ H R I h => ?_⟩
  refine Call_ (ld_blt I hg hm PyProof.Rows.boot_zip (PyProof.Rows.callWith_type1 (thn (ha.run pos pins s σ H _ I h) fun us s1 ⟨vs, H1, I1, r1, q1⟩ => ?_) hs hpl))
  obtain ⟨k1, k2, a, b, xs, ys, ex, qx, qy, q⟩ := q1
  subst ex
  obtain rfl := vals2 r1
  obtain ⟨its, rv, p1, la⟩ := inv_seqK I1 qx
  obtain ⟨its2, rv2, p2, lb⟩ := inv_seqK I1 qy
  refine zip_begins2 (begK k1 a its.toArray) (begK k2 b its2.toArray) p1 p2 fun h' hz hTI hTO h1 h2 hsz hk => wpAny_pyIter_zip hz ?_
  have I2 : Inv X pins σ H1 { s1 with heap := h' } := I1.kept (t' := s1.toks) hk
  have S := zip_sep2 (N := s1.heap.objs.size) (fp1 := [a]) (fp2 := [b]) (by simpa using la) (by simpa using lb)
  refine ⟨s1.heap.objs.size + 4, [s1.heap.objs.size + 4, s1.heap.objs.size + 2, s1.heap.objs.size + 3, s1.heap.objs.size, s1.heap.objs.size + 1], _, _, H1, rfl, I2,
    turn_zipM S (Nat.ne_of_lt la) (Nat.ne_of_lt (Nat.lt_succ_of_lt lb)), ⟨hz, hTI, ⟨_, _, hTO⟩, itK0 h1, itK0 h2⟩, fun c hcm => ?_, q⟩
  have hle : s1.heap.objs.size ≤ c := by
    simp only [List.mem_cons, List.not_mem_nil, or_false] at hcm
    rcases hcm with rfl | rfl | rfl | rfl | rfl
    · exact Nat.le_add_right _ _
    · exact Nat.le_add_right _ _
    · exact Nat.le_add_right _ _
    · exact Nat.le_refl _
    · exact Nat.le_add_right _ _
  exact I1.fpOk hle (I1.hok.fresh hle)
theorem walk_zipM {K : Frag} {k1 k2 : Bool} {a b : Addr} {xs ys : List V} {n : Nat} (hn : n = min xs.length ys.length) : Walk (ItZ K k1 k2 a b xs ys) n (fun H => SqK K k1 H a xs ∧ SqK K k2 H b ys) (YPair (fun i => xs[i]?) (fun i => ys[i]?)) := by
  subst hn
  exact ⟨fun i _ hi q => ⟨q.1, q.2, hi⟩, fun _ q => ⟨q.1, q.2, rfl⟩, fun i H v H' _ q y => by
    obtain ⟨T, x, y, h1, h2, h3, h4, h5⟩ := y
    exact ⟨T, x, y, h1, h2, h3, h4, h5⟩⟩
/-! ### enumerate -/
def ItE (K : Frag) (k : Bool) (a : Addr) (xs : List V) : It :=
  ⟨fun i H => SqK K k H a xs ∧ i < xs.length, fun i H v H' => ∃ T x, v = .ref T ∧ H T = none ∧ H' = upd H T (.tup [.int (i : Nat), x]) ∧ xs[i]? = some x, fun i H => SqK K k H a xs ∧ i = xs.length⟩
def iEnumM (K : Frag) (ta : TA) : TI := fun σ H R => ta σ H fun vs H1 => ∃ (k : Bool) (a : Addr) (xs : List V), vs = [.ref a] ∧ SqK K k H1 a xs ∧ R (ItE K k a xs) H1
end Z
set_option maxHeartbeats 4000000
/-! lists told item by item; comprehensions and loops over them; sizes -/
namespace Z
open PySem PySem.Spec PyProof.Rows L2
/-- all but lists stands -/
def SameN (H H' : Hp) : Prop := ∀ a o, H a = some o → (∀ xs, o ≠ .lst xs) → H' a = some o
theorem SameN.of {H H' : Hp} (s : Same H H') : SameN H H' := fun a o h _ => s a o h
theorem SameN.trans {H H1 H2 : Hp} (s : SameN H H1) (t : SameN H1 H2) : SameN H H2 := fun a o h n => t a o (s a o h n) n
theorem SameN.put {H : Hp} {l : Addr} {xs ys : List V} (h : H l = some (.lst xs)) : SameN H (upd H l (.lst ys)) := fun a o e n => by
  rw [upd_ne]
  · exact e
  · intro q
    rw [q, h] at e
    exact n xs (Option.some.inj e).symm
/-- a list of n items, each told by It -/
def Ls (H : Hp) (l : Addr) (n : Nat) (It : Hp → V → Nat → Prop) : Prop := ∃ xs, H l = some (.lst xs) ∧ xs.length = n ∧ ∀ k x, xs[k]? = some x → It H x k
def Mono (It : Hp → V → Nat → Prop) : Prop := ∀ H H' x k, SameN H H' → It H x k → It H' x k
theorem Ls.mono {H H' : Hp} {l : Addr} {n : Nat} {It : Hp → V → Nat → Prop} (m : Mono It) (s : Same H H') (h : Ls H l n It) : Ls H' l n It := by
  obtain ⟨xs, h1, h2, h3⟩ := h
  exact ⟨xs, s _ _ h1, h2, fun k x e => m _ _ _ _ (SameN.of s) (h3 k x e)⟩
theorem Ls.imp {H : Hp} {l : Addr} {n : Nat} {It Jt : Hp → V → Nat → Prop} (h : Ls H l n It) (i : ∀ x k, k < n → It H x k → Jt H x k) : Ls H l n Jt := by
  obtain ⟨xs, h1, h2, h3⟩ := h
  exact ⟨xs, h1, h2, fun k x e => i x k (by
    by_cases c : k < xs.length
    · omega
    · rw [List.getElem?_eq_none (by omega)] at e
      cases e) (h3 k x e)⟩
/-- one more item behind -/
theorem Ls.snoc {H : Hp} {l : Addr} {xs : List V} {y : V} {n : Nat} {It : Hp → V → Nat → Prop} (m : Mono It) (h1 : H l = some (.lst xs)) (h2 : xs.length = n) (h3 : ∀ k x, xs[k]? = some x → It H x k) (hy : It H y n) : Ls (upd H l (.lst (xs ++ [y]))) l (n + 1) It := by
  refine ⟨_, upd_same, by simp [h2], fun k x e => m _ _ _ _ (SameN.put h1) ?_⟩
  rw [List.getElem?_append] at e
  split at e
  · exact h3 k x e
  · rename_i c
    have : k = n := by
      by_cases q : k - xs.length = 0
      · omega
      · rw [List.getElem?_eq_none (by simp; omega)] at e
        cases e
    subst this
    rw [h2, Nat.sub_self] at e
    cases e
    exact hy
section
variable {K : Frag} {σ : L2.St} {H1 : Hp} {Q : VK} {te : TE} {i j : Nat}
/-- a comprehension whose turns give items told by It -/
theorem z_lcP {J : It} {n : Nat} {G : Hp → Prop} {Y : Nat → Hp → V → Hp → Prop} {g : TG} {vs : List Nat} (w : Walk J n G Y) (It : Hp → V → Nat → Prop) (m : Mono It) (hn : n ≤ 16777216) (hG : ∀ H', Same H1 H' → G H')
    (hs : ∀ k x H H' (N : VK), k < n → Same H1 H → Y k H x H' → (∀ y H4, Same H H4 → It H4 y k → N y H4) → g x (wipe σ vs) H' fun σ2 H2 => wipe σ2 vs = wipe σ vs ∧ te σ2 H2 N)
    (k : ∀ D H', H1 D = none → Same H1 H' → Ls H' D n It → Q (.ref D) H') : zLc J g tYes te vs σ H1 Q := fun D hD => by
  refine lc_it w (fun i H => Same H1 H ∧ Ls H D i It) ⟨Same.new hD, [], upd_same, rfl, fun k x e => by simp at e⟩ (fun i H hi p => hG H p.1) (fun i x H H' hi p y => ?_) (fun H p => k D H hD p.1 p.2)
  refine hs i x H H' _ hi p.1 y (fun y H4 s4 hy => ?_)
  obtain ⟨xs, h1, h2, h3⟩ := p.2.mono m s4
  refine ⟨_, h1, ?_, ?_, Ls.snoc m h1 h2 h3 hy⟩
  · rw [sizeLine_eq]
    omega
  · intro b o hb
    rw [upd_ne (ne_of_none hb hD)]
    exact s4 _ _ (p.1 _ _ hb)
/-- over a range -/
theorem z_lcRP {n : Int} (It : Hp → V → Nat → Prop) (m : Mono It) {vs : List Nat} (h1 : -4611686018427387904 ≤ n) (h2 : n ≤ 16777216)
    (hs : ∀ (k : Nat) H (N : VK), k < n.toNat → Same H1 H → (∀ y H4, Same H H4 → It H4 y k → N y H4) → wipe ((wipe σ vs).set i (some (.int k))) vs = wipe σ vs ∧ te ((wipe σ vs).set i (some (.int k))) H N)
    (k : ∀ D H', H1 D = none → Same H1 H' → Ls H' D n.toNat It → Q (.ref D) H') : zLcR (gName i) tYes te vs σ [.int n] H1 Q := by
  refine ⟨n, rfl, by omega, by omega, ?_⟩
  refine z_lcP (walk_range (lo := 0) (n := n.toNat)) It m (by omega) (fun _ _ => trivial) (fun k x H H' N hk s y c => ?_) k
  obtain ⟨rfl, rfl⟩ := y
  have e : (0 : Int) + (k : Int) = k := Int.zero_add _
  dsimp only
  rw [e]
  exact hs k H' N hk s c
/-- over any list -/
theorem z_lcVP {a : Addr} {xs : List V} (It : Hp → V → Nat → Prop) (m : Mono It) {vs : List Nat} (h : H1 a = some (.lst xs)) (hn : xs.length ≤ 16777216)
    (hs : ∀ k x H (N : VK), xs[k]? = some x → Same H1 H → (∀ y H4, Same H H4 → It H4 y k → N y H4) → wipe ((wipe σ vs).set i (some x)) vs = wipe σ vs ∧ te ((wipe σ vs).set i (some x)) H N)
    (k : ∀ D H', H1 D = none → Same H1 H' → Ls H' D xs.length It → Q (.ref D) H') : zLcL K (gName i) tYes te vs σ (.ref a) H1 Q := by
  refine ⟨a, rfl, ⟨_, SqL.of h⟩, ?_⟩
  refine z_lcP (walk_list (K := K) (a := a) (xs := xs)) It m hn (fun H' s => SqL.of (s _ _ h)) (fun k x H H' N hk s y c => ?_) k
  obtain ⟨rfl, hx⟩ := y
  exact hs k x H' N hx s c
/-- over any list, the values told -/
theorem z_lcVF {a : Addr} {xs : List V} (f : Nat → V) {vs : List Nat} (h : H1 a = some (.lst xs)) (hn : xs.length ≤ 16777216)
    (hs : ∀ k x H (N : VK), xs[k]? = some x → Same H1 H → (∀ H4, Same H H4 → N (f k) H4) → wipe ((wipe σ vs).set i (some x)) vs = wipe σ vs ∧ te ((wipe σ vs).set i (some x)) H N)
    (k : ∀ D H', H1 D = none → Same H1 H' → H' D = some (.lst ((List.range xs.length).map f)) → Q (.ref D) H') : zLcL K (gName i) tYes te vs σ (.ref a) H1 Q := by
  refine ⟨a, rfl, ⟨_, SqL.of h⟩, ?_⟩
  refine z_lcF (walk_list (K := K) (a := a) (xs := xs)) f hn (fun H' s => SqL.of (s _ _ h)) (fun k x H H' N hk s y c => ?_) k
  obtain ⟨rfl, hx⟩ := y
  exact hs k x H' N hx s c
/-- over enumerate -/
def zLcE (K : Frag) (g : TG) (tt : TT) (te : TE) (vs : List Nat) (σ : L2.St) (xs : List V) (H1 : Hp) (Q : VK) : Prop := ∃ (k : Bool) (a : Addr) (ys : List V), xs = [.ref a] ∧ SqK K k H1 a ys ∧ zLc (ItE K k a ys) g tt te vs σ H1 Q
theorem z_lcES {g : TG} {tt : TT} {t : TA} {vs : List Nat} (q : t σ H1 fun xs H2 => zLcE K g tt te vs σ xs H2 Q) : tLc (iEnumM K t) g tt te vs σ H1 Q := q
/-- over zip, lists and tuples -/
def zLcM (K : Frag) (g : TG) (tt : TT) (te : TE) (vs : List Nat) (σ : L2.St) (xs : List V) (H1 : Hp) (Q : VK) : Prop := ∃ (k1 k2 : Bool) (a b : Addr) (us ys : List V), xs = [.ref a, .ref b] ∧ SqK K k1 H1 a us ∧ SqK K k2 H1 b ys ∧ zLc (ItZ K k1 k2 a b us ys) g tt te vs σ H1 Q
theorem z_lcMS {g : TG} {tt : TT} {t : TA} {vs : List Nat} (q : t σ H1 fun xs H2 => zLcM K g tt te vs σ xs H2 Q) : tLc (iZipM K t) g tt te vs σ H1 Q := q
/-! loops over enumerate, zip, a range by steps -/
def zFoE (K : Frag) (g : TG) (tb : TS) (D : Ends) (σ : L2.St) (vs : List V) (H1 : Hp) : Prop := ∃ (k : Bool) (a : Addr) (xs : List V), vs = [.ref a] ∧ SqK K k H1 a xs ∧ ∃ W : Nat → Nat → L2.St → Hp → Prop, (∃ m, W 0 m σ H1) ∧ ∀ i m σ H, W i m σ H →
    ((ItE K k a xs).stop i H ∧ D.nx σ H) ∨ ((ItE K k a xs).go i H ∧ ∃ N : L2.St → Hp → Prop, (∀ σ' H', N σ' H' → ∃ m', m' < m ∧ W (i + 1) m' σ' H') ∧ ∀ x H', (ItE K k a xs).yld i H x H' → g x σ H' fun σ2 H2 => tb { D with nx := N, ct := N, bk := D.nx } σ2 H2)
theorem z_foES {g : TG} {tb : TS} {D : Ends} {t : TA} (q : t σ H1 fun vs H2 => zFoE K g tb D σ vs H2) : tFor (iEnumM K t) g tb D σ H1 := q
def zFo3 (g : TG) (tb : TS) (D : Ends) (σ : L2.St) (vs : List V) (H1 : Hp) : Prop := ∃ (a b c : Int) (n : Nat), vs = [.int a, .int b, .int c] ∧ RgC a b c n ∧ ∃ W : Nat → Nat → L2.St → Hp → Prop, (∃ m, W 0 m σ H1) ∧ ∀ k m σ H, W k m σ H →
    ((Itc a c n).stop k H ∧ D.nx σ H) ∨ ((Itc a c n).go k H ∧ ∃ N : L2.St → Hp → Prop, (∀ σ' H', N σ' H' → ∃ m', m' < m ∧ W (k + 1) m' σ' H') ∧ ∀ x H', (Itc a c n).yld k H x H' → g x σ H' fun σ2 H2 => tb { D with nx := N, ct := N, bk := D.nx } σ2 H2)
theorem z_fo3S {g : TG} {tb : TS} {D : Ends} {t : TA} (q : t σ H1 fun vs H2 => zFo3 g tb D σ vs H2) : tFor (iRng3 t) g tb D σ H1 := q
end
section
variable {K : Frag} {H : Hp} {Q : VK}
/-! sizes -/
theorem Bits.mul {a b : Nat} {i j : Int} (ha : Bits a i) (hb : Bits b j) : Bits (a + b) (i * j) := by
  unfold Bits at *
  rw [Int.natAbs_mul, Nat.pow_add]
  exact Nat.mul_lt_mul'' ha hb
theorem Bits.add {a : Nat} {i j : Int} (ha : Bits a i) (hb : Bits a j) : Bits (a + 1) (i + j) := by
  unfold Bits at *
  rw [Nat.pow_succ]
  omega
theorem Bits.sub {a : Nat} {i j : Int} (ha : Bits a i) (hb : Bits a j) : Bits (a + 1) (i - j) := by
  unfold Bits at *
  rw [Nat.pow_succ]
  omega
theorem Bits.up {a b : Nat} {i : Int} (h : Bits a i) (hb : a ≤ b) : Bits b i := bits_up h hb
theorem Bits.zero {a : Nat} : Bits a 0 := Nat.two_pow_pos a
theorem Bits.le {a : Nat} {i j : Int} (h : Bits a j) (hi : i.natAbs ≤ j.natAbs) : Bits a i := Nat.lt_of_le_of_lt hi h
theorem Bits.small {i : Int} {n : Nat} (h1 : -(1 <<< n : Nat) < i) (h2 : i < (1 <<< n : Nat)) : Bits n i := by
  unfold Bits
  rw [Nat.one_shiftLeft] at h1 h2
  omega
theorem Bits.div {a : Nat} {i j : Int} (h : Bits a i) : Bits a (i / j) := by
  refine h.le ?_
  have := Int.natAbs_ediv_le_natAbs i j
  exact this
theorem Bits.gcd {a : Nat} {i j : Int} (h : Bits a j) (h0 : j ≠ 0) : Bits a ((Int.gcd i j : Nat) : Int) := by
  refine h.le ?_
  rw [Int.natAbs_natCast]
  exact Nat.le_of_dvd (by omega) (Int.gcd_dvd_natAbs_right ..)
theorem Bits.mod {a : Nat} {i j : Int} (h : Bits a j) (h0 : 0 < j) : Bits a (i % j) := by
  refine h.le ?_
  have := Int.emod_nonneg i (show j ≠ 0 by omega)
  have := Int.emod_lt_of_pos i h0
  omega
theorem z_repB {i j : Int} {a b : Nat} (ha : Bits a i) (hb : Bits b j) (h0 : 0 < a) (h1 : 0 < b) (h : a + b ≤ 1000000) (q : Q (.int (i * j)) H) : zRep (.int i) (.int j) H Q := .inl (z_mulB ha hb h0 h1 h q)
end
end Z
set_option maxHeartbeats 4000000
/-! defs at any address (staticmethods), read by one look; their calls -/
namespace Z
open PySem PySem.Spec PyProof.Rows L2
def seenK2 (fb : List Chk) (fn : List He5.DefA) (K : Frag) : SeenZ := ((fb.all fun c => c K) && fn.all fun d => d.ok K, fn.map fun d => He5.fnA K (d.at_ K))
def dueK2 (fn : List He5.DefA) : SeenZ := (true, fn.map He5.DefA.val)
def Says2 (fb : List Chk) (fn : List He5.DefA) (K : Frag) : Prop := seenK2 fb fn K = dueK2 fn
section
variable {fb : List Chk} {fn : List He5.DefA} {K : Frag}
theorem Says2.fact (c : Says2 fb fn K) (i : Nat) {f : Chk} (h : fb[i]? = some f := by rfl) : f K = true := by
  have q := (He.ba (congrArg (fun z : SeenZ => z.1) c)).1
  exact List.all_eq_true.mp q f (List.mem_of_getElem? h)
theorem Says2.def_ (c : Says2 fb fn K) (i : Nat) {d : He5.DefA} (h : fn[i]? = some d := by rfl) : ∃ fd, FunD K d.name d.qual d.params d.body d.scope (d.dvs K) (d.kws K) (d.at_ K) fd := by
  have q := (He.ba (congrArg (fun z : SeenZ => z.1) c)).2
  have e : fn.map (fun d => He5.fnA K (d.at_ K)) = fn.map He5.DefA.val := congrArg (fun z : SeenZ => z.2) c
  have e2 := congrArg (fun l => l[i]?) e
  simp only [List.getElem?_map, h, Option.map_some] at e2
  exact He5.DefA.funD (Option.some.inj e2) (List.all_eq_true.mp q d (List.mem_of_getElem? h))
end
structure LwB (fb : List Chk) (fn : List He5.DefA) (K : Frag) (mg : Str → Option Value) : Prop where
  at_ : ∃ h : Heap, K.In h ∧ h.Ns mainGlobals mg
  c : Says2 fb fn K
/-- C.m(..), m a staticmethod of C -/
def tStaW (C : Addr) (sp : Sp) (dvs : List V) (W : WX) (ta : TE) (t : TA) : TE := fun σ H Q => ta σ H fun x H1 => x = .ref C ∧ t σ H1 fun vs H2 => sp (vs ++ dvs) H2 Q (fun cls d H' => W cls d σ H')
section
variable {K : Frag} {σ : L2.St} {H : Hp} {Q : VK} {ta : TE} {t : TA} {sp : Sp} {dvs : List V} {W : WX} {C : Addr}
def zSta (C : Addr) (x : V) (R : Prop) : Prop := x = .ref C ∧ R
theorem z_sta (q : ta σ H fun x H1 => zSta C x (t σ H1 fun vs H2 => sp (vs ++ dvs) H2 Q (fun cls d H' => W cls d σ H'))) : tStaW C sp dvs W ta t σ H Q := q
theorem z_sta1 {R : Prop} (q : R) : zSta C (.ref C) R := ⟨rfl, q⟩
end
end Z
set_option maxHeartbeats 4000000
/-! one look behind the top, taken in parts -/
namespace Z
open PySem PySem.Spec PyProof.Rows L2
theorem map_three {α β γ δ : Type} {o : Option α} {f : α → β} {g : α → γ} {h : α → δ} {a : β} {b : γ} {c : δ} (h1 : o.map f = some a) (h2 : o.map g = some b) (h3 : o.map h = some c) : o.map (fun x => (f x, g x, h x)) = some (a, b, c) := by
  cases o with
  | none => cases h1
  | some x =>
    cases h1
    cases h2
    cases h3
    rfl
end Z
set_option maxHeartbeats 4000000
/-! comprehensions and loops over tuples; an own operator's reading; Ratios' lcm -/
namespace Z
open PySem PySem.Spec PyProof.Rows L2
section
variable {K : Frag} {σ : L2.St} {H1 : Hp} {Q : VK} {te : TE} {i j : Nat}
def zLcT (K : Frag) (g : TG) (tt : TT) (te : TE) (vs : List Nat) (σ : L2.St) (x : V) (H1 : Hp) (Q : VK) : Prop := ∃ a, x = .ref a ∧ (∃ xs, SqT K H1 a xs) ∧ zLc (Itt K a) g tt te vs σ H1 Q
theorem z_lcTS {g : TG} {tt : TT} {t : TE} {vs : List Nat} (q : t σ H1 fun x H2 => zLcT K g tt te vs σ x H2 Q) : tLc (iTup K t) g tt te vs σ H1 Q := q
theorem z_lcTP {a : Addr} {xs : List V} (It : Hp → V → Nat → Prop) (m : Mono It) {vs : List Nat} (h : H1 a = some (.tup xs)) (hn : xs.length ≤ 16777216)
    (hs : ∀ k x H (N : VK), xs[k]? = some x → Same H1 H → (∀ y H4, Same H H4 → It H4 y k → N y H4) → wipe ((wipe σ vs).set i (some x)) vs = wipe σ vs ∧ te ((wipe σ vs).set i (some x)) H N)
    (k : ∀ D H', H1 D = none → Same H1 H' → Ls H' D xs.length It → Q (.ref D) H') : zLcT K (gName i) tYes te vs σ (.ref a) H1 Q := by
  refine ⟨a, rfl, ⟨_, SqT.of h⟩, ?_⟩
  refine z_lcP (walk_tup (K := K) (a := a) (xs := xs)) It m hn (fun H' s => SqT.of (s _ _ h)) (fun k x H H' N hk s y c => ?_) k
  obtain ⟨rfl, hx⟩ := y
  exact hs k x H' N hx s c
theorem z_lcTF {a : Addr} {xs : List V} (f : Nat → V) {vs : List Nat} (h : H1 a = some (.tup xs)) (hn : xs.length ≤ 16777216)
    (hs : ∀ k x H (N : VK), xs[k]? = some x → Same H1 H → (∀ H4, Same H H4 → N (f k) H4) → wipe ((wipe σ vs).set i (some x)) vs = wipe σ vs ∧ te ((wipe σ vs).set i (some x)) H N)
    (k : ∀ D H', H1 D = none → Same H1 H' → H' D = some (.lst ((List.range xs.length).map f)) → Q (.ref D) H') : zLcT K (gName i) tYes te vs σ (.ref a) H1 Q := by
  refine ⟨a, rfl, ⟨_, SqT.of h⟩, ?_⟩
  refine z_lcF (walk_tup (K := K) (a := a) (xs := xs)) f hn (fun H' s => SqT.of (s _ _ h)) (fun k x H H' N hk s y c => ?_) k
  obtain ⟨rfl, hx⟩ := y
  exact hs k x H' N hx s c
/-- a loop over a tuple -/
def zFoT (K : Frag) (g : TG) (tb : TS) (D : Ends) (σ : L2.St) (x : V) (H1 : Hp) : Prop := ∃ a, x = .ref a ∧ (∃ xs, SqT K H1 a xs) ∧ ∃ W : Nat → Nat → L2.St → Hp → Prop, (∃ m, W 0 m σ H1) ∧ ∀ k m σ H, W k m σ H →
    ((Itt K a).stop k H ∧ D.nx σ H) ∨ ((Itt K a).go k H ∧ ∃ N : L2.St → Hp → Prop, (∀ σ' H', N σ' H' → ∃ m', m' < m ∧ W (k + 1) m' σ' H') ∧ ∀ x H', (Itt K a).yld k H x H' → g x σ H' fun σ2 H2 => tb { D with nx := N, ct := N, bk := D.nx } σ2 H2)
theorem z_foTS {g : TG} {tb : TS} {D : Ends} {t : TE} (q : t σ H1 fun x H2 => zFoT K g tb D σ x H2) : tFor (iTup K t) g tb D σ H1 := q
theorem z_foT {g : TG} {tb : TS} {D : Ends} {a : Addr} {xs : List V} (h : H1 a = some (.tup xs)) (I : Nat → L2.St → Hp → Prop) (h0 : I 0 σ H1) (hl : ∀ k σ H, I k σ H → H a = some (.tup xs))
    (hs : ∀ k x σ H, xs[k]? = some x → I k σ H → g x σ H fun σ2 H2 => tb { D with nx := I (k + 1), ct := I (k + 1), bk := D.nx } σ2 H2) (hd : ∀ σ H, I xs.length σ H → D.nx σ H) : zFoT K g tb D σ (.ref a) H1 :=
  ⟨a, rfl, ⟨_, SqT.of h⟩, for_it (walk_tup (K := K) (a := a) (xs := xs)) I h0 (fun k σ H _ p => SqT.of (hl k σ H p)) (fun k x σ H H' _ p y => by
    obtain ⟨rfl, hx⟩ := y
    exact hs k x σ H' hx p) hd⟩
/-- an own operator of two instances -/
theorem z_own2 {r : R2} {C : Addr} {sp : Sp} {E : XK} {a b dx dy : Addr} {fs gs : List (Str × V)} {H : Hp} (h1 : H a = some (.ins C dx fs)) (h2 : H b = some (.ins C dy gs)) (q : sp [.ref a, .ref b] H (fun v H' => (∃ q, v = .ref q) ∧ Q v H') E) : rOr r (rOwn2 C sp E) (.ref a) (.ref b) H Q :=
  .inr ⟨a, b, dx, dy, fs, gs, rfl, rfl, h1, h2, q⟩
/-- lcm of two numbers -/
theorem z_lcm {H : Hp} {a b : Int} {B C : Nat} (ha : Bits B a) (hb : Bits C b) (h1 : B ≤ 6000) (h2 : C ≤ 6000) (q : Q (.int ((Nat.lcm a.natAbs b.natAbs : Nat) : Int)) H) : rLcm [.int a, .int b] H Q :=
  ⟨a, b, rfl, Nat.lt_of_lt_of_le ha (Nat.pow_le_pow_right (by decide) h1), Nat.lt_of_lt_of_le hb (Nat.pow_le_pow_right (by decide) h2), q⟩
theorem lcm_facts {a b : Int} (ha : 0 < a) (hb : 0 < b) : 0 < ((Nat.lcm a.natAbs b.natAbs : Nat) : Int) ∧ a ∣ ((Nat.lcm a.natAbs b.natAbs : Nat) : Int) ∧ b ∣ ((Nat.lcm a.natAbs b.natAbs : Nat) : Int) ∧ ∀ B C, Bits B a → Bits C b → Bits (B + C) ((Nat.lcm a.natAbs b.natAbs : Nat) : Int) := by
  have p : 0 < Nat.lcm a.natAbs b.natAbs := Nat.lcm_pos (by omega) (by omega)
  refine ⟨by omega, ?_, ?_, fun B C h1 h2 => ?_⟩
  · rw [← Int.natAbs_dvd]
    exact_mod_cast Nat.dvd_lcm_left _ _
  · rw [← Int.natAbs_dvd]
    exact_mod_cast Nat.dvd_lcm_right _ _
  · refine (h1.mul h2).le ?_
    rw [Int.natAbs_natCast, Int.natAbs_mul]
    exact Nat.div_le_self _ _
end
end Z
set_option maxHeartbeats 4000000
/-! isqrt -/
namespace Z
open PySem PySem.Spec PyProof.Rows L2
end Z
set_option maxHeartbeats 4000000
/-! a tuple turned round by a slice; walking a list or a tuple; unpacking a list -/
namespace Z
open PySem PySem.Spec PyProof.Rows L2
def tRevT (K : PySem.W.Frag) (te : TE) : TE := fun σ H Q => te σ H fun x H1 => ∃ a xs, x = .ref a ∧ SqT K H1 a xs ∧ ∀ p, H1 p = none → Q (.ref p) (upd H1 p (.tup xs.reverse))
section
variable {X : Cx}
/-- a list or a tuple walked -/
def iOr (w1 w2 : TI) : TI := fun σ H R => w1 σ H R ∨ w2 σ H R
theorem pi_or {tg it : Expr} {w1 w2 : TI} (h1 : PI X tg it w1) (h2 : PI X tg it w2) : PI X tg it (iOr w1 w2) := ⟨fun pins s σ H R I h => h.elim (h1.run pins s σ H R I) (h2.run pins s σ H R I)⟩
end
section
variable {K : Frag} {σ : L2.St} {H : Hp} {Q : VK}
def zRevT (K : Frag) (x : V) (H : Hp) (Q : VK) : Prop := ∃ a xs, x = .ref a ∧ SqT K H a xs ∧ ∀ p, H p = none → Q (.ref p) (upd H p (.tup xs.reverse))
theorem z_revTS {te : TE} (q : te σ H fun x H1 => zRevT K x H1 Q) : tRevT K te σ H Q := q
theorem z_lcL1 {w1 w2 : TI} {g : TG} {tt : TT} {te : TE} {vs : List Nat} (q : tLc w1 g tt te vs σ H Q) : tLc (iOr w1 w2) g tt te vs σ H Q := .inl q
theorem z_lcR1 {w1 w2 : TI} {g : TG} {tt : TT} {te : TE} {vs : List Nat} (q : tLc w2 g tt te vs σ H Q) : tLc (iOr w1 w2) g tt te vs σ H Q := .inr q
theorem z_glst {D : L2.St → Hp → Prop} {p : Addr} {xs : List V} {n : Nat} {ts : TGs} (h : H p = some (.lst xs)) (hl : xs.length = n) (q : ts xs σ H D) : gLst K n ts (.ref p) σ H D := ⟨p, xs, rfl, SqL.of h, hl, q⟩
end
end Z
set_option maxHeartbeats 4000000
/-! what the module's names reach, each address once by a mask: a cheap look behind the top -/
namespace Z
open PySem PySem.Spec PyProof.Rows L2
/-- those that the mask does not hold, each once -/
def newB {α : Type} : List Addr → Nat → List Addr → (List Addr → Nat → α) → α
  | [], m, acc, k => k acc m
  | a :: r, m, acc, k => HandSHeadRun.frNat a fun a => match Nat.beq (Nat.mod (Nat.shiftRight m a) 2) 1 with
    | true => newB r m acc k
    | false => HandSHeadRun.frNat (Nat.lor m (Nat.shiftLeft 1 a)) fun m => newB r m (a :: acc) k
def asB (g : Addr → Option Obj) : Nat → List Addr → Nat → List Addr → List Addr
  | 0, _, _, acc => acc
  | n + 1, fr, m, acc => newB (fr.flatMap fun a => match g a with
    | some o => He.refsD o
    | none => []) m [] fun nw m => asB g n nw m (nw ++ acc)
def seenG3 (n : Nat) (fb : List Chk) (fn : List He5.DefA) (g : Addr → Option Obj) : SeenZ := seenK2 fb fn (He.frG g (asB g n [mainGlobals] (Nat.shiftLeft 1 mainGlobals) [cStatics, mainGlobals]))
def hookZ3 (n : Nat) (fb : List Chk) (fn : List He5.DefA) : PySem.W.Hook where
  α := SeenZ
  val := fun _ => dueK2 fn
  obs := fun st => seenG3 n fb fn st.heap.get?
  says := fun _ hp => ∃ K : Frag, K.In hp ∧ Says2 fb fn K
  keeps := fun _ _ _ ⟨K, hin, c⟩ kp => ⟨K, PySem.W.Frag.In.keeps hin kp, c⟩
  of := fun _ _ eq => ⟨_, He.frG_in, eq⟩
theorem seenG3_eq {n : Nat} {fb : List Chk} {fn : List He5.DefA} {g : Addr → Option Obj} {st : Shared} (h : ∀ a, g a = st.heap.get? a) : seenG3 n fb fn g = (hookZ3 n fb fn).obs st := by
  rw [show g = st.heap.get? from funext h] <;> rfl
theorem seen_both3 {α : Type} {o : Option α} {g : α → Addr → Option Obj} {n : Nat} {fb1 fb2 : List Chk} {fn1 fn2 : List He5.DefA} (h1 : o.map (fun x => seenG3 n fb1 fn1 (g x)) = some (dueK2 fn1)) (h2 : o.map (fun x => seenG3 n fb2 fn2 (g x)) = some (dueK2 fn2)) :
    o.map (fun x => seenG3 n (fb1 ++ fb2) (fn1 ++ fn2) (g x)) = some (dueK2 (fn1 ++ fn2)) := by
  cases o with
  | none => cases h1
  | some x =>
    have e1 : seenG3 n fb1 fn1 (g x) = dueK2 fn1 := Option.some.inj h1
    have e2 : seenG3 n fb2 fn2 (g x) = dueK2 fn2 := Option.some.inj h2
    show some (seenG3 n (fb1 ++ fb2) (fn1 ++ fn2) (g x)) = _
    unfold seenG3 seenK2 dueK2 at *
    have a1 := congrArg (fun z : SeenZ => z.1) e1
    have a2 := congrArg (fun z : SeenZ => z.1) e2
    have b1 := congrArg (fun z : SeenZ => z.2) e1
    have b2 := congrArg (fun z : SeenZ => z.2) e2
    dsimp only at a1 a2 b1 b2
    obtain ⟨c1, c2⟩ := He.ba a1
    obtain ⟨d1, d2⟩ := He.ba a2
    rw [List.all_append, List.all_append, List.map_append, List.map_append, c1, c2, d1, d2, b1, b2]
    rfl
end Z
set_option maxHeartbeats 4000000
/-! a name that holds a list or a tuple: walked, indexed; comprehensions over zip by predicates -/
namespace Z
open PySem PySem.Spec PyProof.Rows L2
section
variable {K : Frag} {σ : L2.St} {H1 : Hp} {Q : VK} {te : TE} {i j : Nat}
def Sq2 (H : Hp) (a : Addr) (xs : List V) : Prop := H a = some (.lst xs) ∨ H a = some (.tup xs)
theorem Sq2.mono {H H' : Hp} {a : Addr} {xs : List V} (s : Same H H') (h : Sq2 H a xs) : Sq2 H' a xs := h.imp (s _ _) (s _ _)
theorem z_ixS {a : Addr} {xs : List V} {k : Int} {v : V} (h : Sq2 H1 a xs) (e : atI xs k = some v) (q : Q v H1) : rIx K (.ref a) (.int k) H1 Q := h.elim (fun h => z_ixL (SqL.of h) e q) (fun h => z_ixT h e q)
theorem z_lenS {a : Addr} {xs : List V} (h : Sq2 H1 a xs) (q : Q (.int (xs.length : Int)) H1) : rLen1 K [.ref a] H1 Q := h.elim (fun h => z_lenLst h q) (fun h => z_lenT h q)
theorem z_listS {a : Addr} {xs : List V} (h : Sq2 H1 a xs) (k : ∀ p H', H1 p = none → Same H1 H' → H' p = some (.lst xs) → Q (.ref p) H') : rList1 K [.ref a] H1 Q := h.elim (fun h => z_listL (SqL.of h) k) (fun h => z_listT h k)
theorem z_lcO {a : Addr} {xs : List V} (It : Hp → V → Nat → Prop) (m : Mono It) {vs : List Nat} (hv : σ[i]? = some (some (.ref a))) (h : Sq2 H1 a xs) (hn : xs.length ≤ 16777216)
    (hs : ∀ k x H (N : VK), xs[k]? = some x → Same H1 H → (∀ y H4, Same H H4 → It H4 y k → N y H4) → wipe ((wipe σ vs).set j (some x)) vs = wipe σ vs ∧ te ((wipe σ vs).set j (some x)) H N)
    (k : ∀ D H', H1 D = none → Same H1 H' → Ls H' D xs.length It → Q (.ref D) H') : tLc (iOr (iList K (tVar i)) (iTup K (tVar i))) (gName j) tYes te vs σ H1 Q :=
  h.elim (fun h => .inl ⟨_, hv, z_lcVP It m h hn hs k⟩) (fun h => .inr ⟨_, hv, z_lcTP It m h hn hs k⟩)
theorem z_foO {tb : TS} {D : Ends} {a : Addr} {xs : List V} (hv : σ[i]? = some (some (.ref a))) (I : Nat → L2.St → Hp → Prop) (h0 : I 0 σ H1) (h : Sq2 H1 a xs) (hl : ∀ k σ H, I k σ H → ∀ o, H1 a = some o → H a = some o)
    (hs : ∀ k x σ H, xs[k]? = some x → I k σ H → gName j x σ H fun σ2 H2 => tb { D with nx := I (k + 1), ct := I (k + 1), bk := D.nx } σ2 H2) (hd : ∀ σ H, I xs.length σ H → D.nx σ H) : tFor (iOr (iList K (tVar i)) (iTup K (tVar i))) (gName j) tb D σ H1 :=
  h.elim (fun h => .inl ⟨_, hv, z_foV h I h0 (fun k σ H p => hl k σ H p _ h) hs hd⟩) (fun h => .inr ⟨_, hv, z_foT h I h0 (fun k σ H p => hl k σ H p _ h) hs hd⟩)
theorem z_lcMP {a b : Addr} {k1 k2 : Bool} {us ys : List V} (It : Hp → V → Nat → Prop) (mo : Mono It) {vs : List Nat} (h : ∀ H', Same H1 H' → SqK K k1 H' a us) (h2 : ∀ H', Same H1 H' → SqK K k2 H' b ys) {n : Nat} (hn : n = min us.length ys.length) (hm : n ≤ 16777216)
    (hs : ∀ (k : Nat) x y H (N : VK), us[k]? = some x → ys[k]? = some y → Same H1 H → (∀ z H4, Same H H4 → It H4 z k → N z H4) → wipe (((wipe σ vs).set i (some x)).set j (some y)) vs = wipe σ vs ∧ te (((wipe σ vs).set i (some x)).set j (some y)) H N)
    (k : ∀ D H', H1 D = none → Same H1 H' → Ls H' D n It → Q (.ref D) H') : zLcM K (gTup K 2 (gCons (gName i) (gCons (gName j) gNil))) tYes te vs σ [.ref a, .ref b] H1 Q := by
  refine ⟨_, _, a, b, _, _, rfl, h _ (fun _ _ e => e), h2 _ (fun _ _ e => e), ?_⟩
  refine z_lcP (walk_zipM hn) It mo hm (fun H' s => ⟨h _ s, h2 _ s⟩) (fun k x H H' N hk s y c => ?_) k
  obtain ⟨T, u, v, rfl, hT, rfl, hu, hv⟩ := y
  obtain ⟨z1, z2⟩ := hs k u v (upd H T (.tup [u, v])) N hu hv (s.trans (Same.new hT)) (fun z H4 s4 hz => c z H4 ((Same.new hT).trans s4) hz)
  exact z_gtup upd_same rfl ⟨_, _, rfl, _, _, rfl, rfl, z1, z2⟩
theorem Sq2.k {a : Addr} {xs : List V} (h : Sq2 H1 a xs) : ∃ k : Bool, ∀ H', Same H1 H' → SqK K k H' a xs := h.elim (fun h => ⟨false, fun H' s => SqK.L (s _ _ h)⟩) (fun h => ⟨true, fun H' s => SqK.T (s _ _ h)⟩)
end
end Z
set_option maxHeartbeats 4000000
/-! plain mathematics of k31: numbers by places, times 1 + x again and again -/
namespace S31
/-- the number at a place -/
def cf (xs : List Int) (k : Nat) : Int := xs.getD k 0
def tp (f : Nat → Int) : Nat → Int := fun k => (if k = 0 then 0 else f (k - 1)) + f k
def tpn (f : Nat → Int) : Nat → Nat → Int
  | 0 => f
  | n + 1 => tp (tpn f n)
theorem cf_nil {k : Nat} : cf [] k = 0 := by simp [cf]
theorem cf_out {xs : List Int} {k : Nat} (h : xs.length ≤ k) : cf xs k = 0 := by simp [cf, List.getD_eq_getElem?_getD, h]
theorem cf_in {xs : List Int} {k : Nat} (h : k < xs.length) : cf xs k = xs[k] := by simp [cf, List.getD_eq_getElem?_getD, h]
theorem cf_map {xs : List Int} {g : Int → Int} {k : Nat} (g0 : g 0 = 0) : cf (xs.map g) k = g (cf xs k) := by
  by_cases h : k < xs.length
  · rw [cf_in h, cf_in (by simpa using h), List.getElem_map]
  · rw [cf_out (xs := xs) (by omega), cf_out (by rw [List.length_map]; omega), g0]
/-- the common divisor -/
def gl (c : Int) (ns : List Int) : Int := ns.foldl (fun c n => ((Int.gcd c n : Nat) : Int)) c
theorem gl_snoc {c n : Int} {ns : List Int} : gl c (ns ++ [n]) = ((Int.gcd (gl c ns) n : Nat) : Int) := by simp [gl]
theorem gl_pos {c : Int} (hc : 0 < c) : ∀ ns : List Int, 0 < gl c ns ∧ gl c ns ≤ c ∧ gl c ns ∣ c ∧ ∀ n ∈ ns, gl c ns ∣ n := by
  intro ns
  induction ns generalizing c with
  | nil => exact ⟨hc, Int.le_refl _, Int.dvd_refl _, fun n h => by cases h⟩
  | cons x xs ih =>
    have g0 : 0 < ((Int.gcd c x : Nat) : Int) := by
      have := Int.gcd_pos_of_ne_zero_left x (show c ≠ 0 by omega)
      omega
    obtain ⟨i1, i2, i3, i4⟩ := ih g0
    have d1 : ((Int.gcd c x : Nat) : Int) ∣ c := Int.gcd_dvd_left ..
    have d2 : ((Int.gcd c x : Nat) : Int) ∣ x := Int.gcd_dvd_right ..
    have le := Int.le_of_dvd hc d1
    refine ⟨i1, Int.le_trans i2 le, Int.dvd_trans i3 d1, fun n h => ?_⟩
    rcases List.mem_cons.mp h with rfl | h
    · exact Int.dvd_trans i3 d2
    · exact i4 n h
end S31
set_option maxHeartbeats 4000000
/-! where no power will do; the power of a narrow polynomial -/
namespace S31
/-! products by places -/
def cv (f g : Nat → Int) (m : Nat) : Nat → Int
  | 0 => 0
  | J + 1 => cv f g m J + (if J ≤ m then f J * g (m - J) else 0)
/-- the value at x of the first N places -/
def E (f : Nat → Int) (x : Rat) : Nat → Rat
  | 0 => 0
  | N + 1 => E f x N + (f N : Rat) * x ^ N
/-! values and powers -/
/-! shifted, scaled -/
def sh (f : Nat → Int) : Nat → Int := fun k => if k = 0 then 0 else f (k - 1)
/-! the narrow polynomial m x^2 - (2 m - 4) x + m -/
def pb : Nat → Nat → Int := tpn fun k => if k = 0 then 1 else 0
theorem pb_succ {N k : Nat} : pb (N + 1) k = (if k = 0 then 0 else pb N (k - 1)) + pb N k := rfl
theorem pb_nonneg : ∀ N k, 0 ≤ pb N k
  | 0, k => by
    show 0 ≤ (if k = 0 then (1 : Int) else 0)
    split <;> decide
  | N + 1, k => by
    rw [pb_succ]
    have h1 := pb_nonneg N k
    have h2 := pb_nonneg N (k - 1)
    split <;> omega
theorem pb_pos : ∀ N k, k ≤ N → 0 < pb N k
  | 0, k, h => by
    have : k = 0 := by omega
    subst this
    decide
  | N + 1, k, h => by
    rw [pb_succ]
    by_cases c : k ≤ N
    · have h1 := pb_pos N k c
      have h2 := pb_nonneg N (k - 1)
      split <;> omega
    · have e : k = N + 1 := by omega
      subst e
      rw [if_neg (by omega), Nat.add_sub_cancel]
      have h1 := pb_pos N N (Nat.le_refl _)
      have h2 := pb_nonneg N (N + 1)
      omega
theorem pb_out : ∀ N k, N < k → pb N k = 0
  | 0, k, h => if_neg (by omega)
  | N + 1, k, h => by
    rw [pb_succ, if_neg (by omega), pb_out N k (by omega), pb_out N (k - 1) (by omega)]
    rfl
end S31
set_option maxHeartbeats 4000000
/-! plain mathematics of k30: corner numbers of a polynomial, halved -/
namespace S30
abbrev Sq := Nat → Rat
def sft (c : Sq) : Sq := fun k => c (k + 1)
/-- sum of pb i k * c k: the i-th row of the sums of neighbours -/
def T : Nat → Sq → Rat
  | 0, c => c 0
  | i + 1, c => T i c + T i (sft c)
/-- the mean -/
def U : Nat → Sq → Rat
  | 0, c => c 0
  | i + 1, c => (U i c + U i (sft c)) / 2
/-- sum of pb d k * c k * u^k * v^(d-k) -/
def G (u v : Rat) : Nat → Sq → Rat
  | 0, c => c 0
  | d + 1, c => v * G u v d c + u * G u v d (sft c)
/-- the corner numbers -/
def be (c : Sq) : Sq := fun i => T i c
/-! ### values -/
/-- the value at x of the first N numbers -/
def E (f : Sq) (x : Rat) : Nat → Rat
  | 0 => 0
  | N + 1 => E f x N + f N * x ^ N
def ab (q : Rat) : Rat := if 0 ≤ q then q else -q
end S30
set_option maxHeartbeats 4000000
/-! corner numbers: by sums over Pascal's rows; turned round; halves -/
namespace S30
open S31 (pb pb_succ pb_out pb_pos)
def rv (d : Nat) (c : Sq) : Sq := fun k => c (d - k)
/-- the numbers a with values A: divided by Pascal's row -/
def dv (d : Nat) (a : Sq) : Sq := fun k => a k / (pb d k : Rat)
/-- the corner numbers of the polynomial with the numbers a -/
def cn (d : Nat) (a : Sq) : Sq := be (dv d a)
end S30
set_option maxHeartbeats 4000000
/-! composed with a straight line; Horner's moves; bends -/
namespace S30
open S31 (pb pb_succ pb_out pb_pos cf)
/-! ### sums of neighbours -/
/-! ### bends -/
def D2 (c : Sq) : Sq := fun k => (c k + -2 * c (k + 1)) + c (k + 2)
/-! ### Horner's moves -/
end S30
set_option maxHeartbeats 4000000
/-! numbers over a bottom; lowest terms -/
namespace S30
open S31 (cf cf_in cf_out cf_map gl gl_pos)
/-- a common factor and zeros at the end left out -/
structure LowT (ns : List Int) (o : Int) (ls : List Int) (o' : Int) : Prop where
  len : ls.length ≤ ns.length
  ex : ∃ c : Int, 0 < c ∧ (∀ k, cf ns k = c * cf ls k) ∧ o = c * o'
  top : ∀ n, ls.length = n + 1 → cf ls n ≠ 0
theorem LowT.pos {ns ls : List Int} {o o' : Int} (h : LowT ns o ls o') (ho : 0 < o) : 0 < o' := by
  obtain ⟨c, c0, _, e⟩ := h.ex
  rw [e] at ho
  by_cases q : 0 < o'
  · exact q
  · have : c * o' ≤ 0 := Int.mul_nonpos_of_nonneg_of_nonpos (by omega) (by omega)
    omega
theorem ne_cast {i : Int} (h : i ≠ 0) : (i : Rat) ≠ 0 := fun q => h (by exact_mod_cast q)
theorem LowT.nil {ns ls : List Int} {o o' : Int} (h : LowT ns o ls o') (hn : ns.length = 0) : ls = [] := List.eq_nil_of_length_eq_zero (by have := h.len; omega)
theorem LowT.abs {ns ls : List Int} {o o' : Int} (h : LowT ns o ls o') (k : Nat) : (cf ls k).natAbs ≤ (cf ns k).natAbs := by
  obtain ⟨c, c0, e1, e2⟩ := h.ex
  rw [e1, Int.natAbs_mul]
  exact Nat.le_mul_of_pos_left _ (by omega)
theorem LowT.over {ns ls : List Int} {o o' : Int} (h : LowT ns o ls o') : o'.natAbs ≤ o.natAbs := by
  obtain ⟨c, c0, e1, e2⟩ := h.ex
  rw [e2, Int.natAbs_mul]
  exact Nat.le_mul_of_pos_left _ (by omega)
theorem lowt_nil {ns : List Int} {o : Int} (ho : 0 < o) (hz : ∀ k, cf ns k = 0) : LowT ns o [] 1 :=
  ⟨Nat.zero_le _, ⟨o, ho, fun k => by rw [hz, S31.cf_nil, Int.mul_zero], (Int.mul_one o).symm⟩, fun n h => by cases h⟩
theorem lowt_of {ns : List Int} {s : Nat} {o : Int} (ho : 0 < o) (hs : s + 1 ≤ ns.length) (hz : ∀ k, s + 1 ≤ k → cf ns k = 0) (ht : cf ns s ≠ 0) :
    LowT ns o ((ns.take (s + 1)).map fun n => n / gl o (ns.take (s + 1))) (o / gl o (ns.take (s + 1))) := by
  obtain ⟨g0, _, g1, gd⟩ := gl_pos ho (ns.take (s + 1))
  have e1 : ∀ k, cf ns k = gl o (ns.take (s + 1)) * cf ((ns.take (s + 1)).map fun n => n / gl o (ns.take (s + 1))) k := by
    intro k
    by_cases h : k < s + 1
    · have h1 : k < ns.length := by omega
      have h2 : k < (ns.take (s + 1)).length := by simp; omega
      rw [cf_map (g := fun n => n / gl o (ns.take (s + 1))) (Int.zero_ediv _), cf_in h1, cf_in h2, List.getElem_take]
      have : gl o (ns.take (s + 1)) ∣ ns[k] := gd _ (by
        have := List.getElem_mem h2
        rwa [List.getElem_take] at this)
      rw [Int.mul_comm, Int.ediv_mul_cancel this]
    · rw [hz k (by omega), cf_out (by simp; omega), Int.mul_zero]
  refine ⟨by simp; omega, ⟨_, g0, e1, by rw [Int.mul_comm, Int.ediv_mul_cancel g1]⟩, fun n hn q => ?_⟩
  have hl : ((ns.take (s + 1)).map fun n => n / gl o (ns.take (s + 1))).length = s + 1 := by simp; omega
  have : n = s := by omega
  subst this
  exact ht (by rw [e1, q, Int.mul_zero])
theorem gl_bits {o : Int} {ns : List Int} (ho : 0 < o) : (gl o ns).natAbs ≤ o.natAbs := by
  obtain ⟨g0, g1, _⟩ := gl_pos ho ns
  omega
end S30
set_option maxHeartbeats 4000000
/-! quadratics at whole places -/
namespace S66
/-- the value at k -/
def qv (a b c k : Int) : Int := a + k * (b + k * c)
end S66
set_option maxHeartbeats 4000000
/-! the greatest numbers -/
set_option maxHeartbeats 4000000
/-! never below zero, papers -/
namespace S66
def rv (a b c x : Rat) : Rat := a + x * (b + x * c)
end S66
set_option maxHeartbeats 4000000
/-! the papers of both blocks -/
namespace S66
theorem nn_of {p q : Rat} (hp : 0 < p) (h : 0 ≤ p * q) : 0 ≤ q := by
  refine Rat.not_lt.mp fun z => ?_
  have := Rat.mul_pos hp (show 0 < -q by grind)
  grind
end S66
set_option maxHeartbeats 4000000
/-! when there is a paper of squares -/
namespace S66
theorem rv_int (a b c k : Int) : rv (a : Rat) (b : Rat) (c : Rat) (k : Rat) = ((qv a b c k : Int) : Rat) := by
  unfold rv qv
  rw [Rat.intCast_add, Rat.intCast_mul, Rat.intCast_add, Rat.intCast_mul]
end S66
set_option maxHeartbeats 4000000
/-! within the greatest number *)-/
namespace S66
theorem c_lt {i j : Int} : (i : Rat) < (j : Rat) ↔ i < j := Rat.intCast_lt_intCast
theorem c_le {i j : Int} : (i : Rat) ≤ (j : Rat) ↔ i ≤ j := Rat.intCast_le_intCast
theorem rv0 {a b c k : Int} : 0 ≤ rv (a : Rat) b c k ↔ 0 ≤ qv a b c k := by
  rw [rv_int, ← c_le]
  rfl
end S66
set_option maxHeartbeats 4000000
/-! quadratics times a whole number above zero: the same answers; what the greatest numbers say -/
namespace S66
/-- quotients by one number -/
theorem rv_over {a b c : Int} {w : Rat} (hw : 0 < w) (x : Rat) : 0 ≤ rv ((a : Rat) / w) ((b : Rat) / w) ((c : Rat) / w) x ↔ 0 ≤ rv (a : Rat) b c x := by
  have e : rv (a : Rat) b c x = w * rv ((a : Rat) / w) ((b : Rat) / w) ((c : Rat) / w) x := by
    unfold rv
    grind
  rw [e]
  exact ⟨fun h => Rat.mul_nonneg (Rat.le_of_lt hw) h, fun h => nn_of hw h⟩
end S66
set_option maxHeartbeats 4000000
/-! the form of degree 6 at shares: never below zero if it is not at equal ones -/
namespace S63
/-- sums of powers -/
def s1 : List Int → Int
  | [] => 0
  | x :: l => x + s1 l
def s2 : List Int → Int
  | [] => 0
  | x :: l => x * x + s2 l
def s3 : List Int → Int
  | [] => 0
  | x :: l => x * x * x + s3 l
def six (a b c : Int) (xs : List Int) : Int := a * s3 xs + (b * s2 xs + c * s1 xs * s1 xs) * s1 xs
theorem perm_sums {xs ys : List Int} (h : xs.Perm ys) : s1 xs = s1 ys ∧ s2 xs = s2 ys ∧ s3 xs = s3 ys := by
  induction h with
  | nil => exact ⟨rfl, rfl, rfl⟩
  | cons x _ ih =>
    obtain ⟨h1, h2, h3⟩ := ih
    simp only [s1, s2, s3]
    rw [h1, h2, h3]
    exact ⟨rfl, rfl, rfl⟩
  | swap x y l =>
    simp only [s1, s2, s3]
    omega
  | trans _ _ ih1 ih2 => exact ⟨ih1.1.trans ih2.1, ih1.2.1.trans ih2.2.1, ih1.2.2.trans ih2.2.2⟩
/-- over all pairs -/
def prs (f : Int → Int → Int) : List Int → Int
  | [] => 0
  | x :: l => (l.map (f x)).foldr (· + ·) 0 + prs f l
theorem row_dev (al be x : Int) : ∀ l : List Int, (l.map fun y => (x - y) * (x - y) * (al + be * (x + y))).foldr (· + ·) 0 = (l.length : Int) * (al * (x * x) + be * (x * x * x)) - (2 * al * x + be * (x * x)) * s1 l + (al - be * x) * s2 l + be * s3 l
  | [] => by simp [s1, s2, s3]
  | y :: l => by
    rw [List.map_cons, List.foldr_cons, row_dev al be x l, List.length_cons]
    simp only [s1, s2, s3]
    have : ((l.length + 1 : Nat) : Int) = (l.length : Int) + 1 := rfl
    rw [this]
    grind
theorem prs_dev (al be : Int) : ∀ l : List Int, prs (fun x y => (x - y) * (x - y) * (al + be * (x + y))) l = al * ((l.length : Int) * s2 l - s1 l * s1 l) + be * ((l.length : Int) * s3 l - s1 l * s2 l)
  | [] => by simp [prs, s1, s2, s3]
  | x :: l => by
    unfold prs
    rw [row_dev al be x l, prs_dev al be l, List.length_cons]
    simp only [s1, s2, s3]
    have : ((l.length + 1 : Nat) : Int) = (l.length : Int) + 1 := rfl
    rw [this]
    grind
theorem row_sum (u v x : Int) : ∀ l : List Int, (l.map fun y => u * (x + y) + v).foldr (· + ·) 0 = (l.length : Int) * (u * x + v) + u * s1 l
  | [] => by simp [s1]
  | y :: l => by
    rw [List.map_cons, List.foldr_cons, row_sum u v x l, List.length_cons]
    simp only [s1]
    have : ((l.length + 1 : Nat) : Int) = (l.length : Int) + 1 := rfl
    rw [this]
    grind
theorem prs_sum (u v : Int) : ∀ l : List Int, 2 * prs (fun x y => u * (x + y) + v) l = ((l.length : Int) - 1) * (2 * u * s1 l + (l.length : Int) * v)
  | [] => by simp [prs, s1]
  | x :: l => by
    unfold prs
    have := prs_sum u v l
    rw [row_sum u v x l, List.length_cons]
    simp only [s1]
    have e : ((l.length + 1 : Nat) : Int) = (l.length : Int) + 1 := rfl
    rw [e]
    grind
theorem row_nn {f : Int → Int} : ∀ {l : List Int}, (∀ y, y ∈ l → 0 ≤ f y) → 0 ≤ (l.map f).foldr (· + ·) 0
  | [], _ => by simp
  | y :: l, h => by
    rw [List.map_cons, List.foldr_cons]
    have h1 := h y (List.mem_cons_self ..)
    have h2 := row_nn (f := f) (l := l) fun z hz => h z (List.mem_cons_of_mem _ hz)
    omega
theorem row_pos {f : Int → Int} {l : List Int} (h : ∀ y, y ∈ l → 0 < f y) (hl : l ≠ []) : 0 < (l.map f).foldr (· + ·) 0 := by
  cases l with
  | nil => exact absurd rfl hl
  | cons y l =>
    rw [List.map_cons, List.foldr_cons]
    have h1 := h y (List.mem_cons_self ..)
    have h2 := row_nn (f := f) (l := l) fun z hz => by have := h z (List.mem_cons_of_mem _ hz); omega
    omega
theorem prs_nn {f : Int → Int → Int} {R : Int → Int → Prop} (hf : ∀ x y, R x y → 0 ≤ f x y) : ∀ {l : List Int}, l.Pairwise R → 0 ≤ prs f l
  | [], _ => by simp [prs]
  | x :: l, h => by
    obtain ⟨h1, h2⟩ := List.pairwise_cons.mp h
    unfold prs
    have a := row_nn (f := f x) (l := l) fun y hy => hf x y (h1 y hy)
    have b := prs_nn hf h2
    omega
theorem prs_pos {f : Int → Int → Int} {R : Int → Int → Prop} (hf : ∀ x y, R x y → 0 < f x y) {l : List Int} (h : l.Pairwise R) (h2 : 2 ≤ l.length) : 0 < prs f l := by
  match l, h, h2 with
  | x :: y :: l, h, _ =>
    obtain ⟨h1, h2⟩ := List.pairwise_cons.mp h
    unfold prs
    have a := row_pos (f := f x) (l := y :: l) (fun z hz => hf x z (h1 z hz)) (List.cons_ne_nil _ _)
    have b := prs_nn (f := f) (R := R) (fun x y r => by have := hf x y r; omega) h2
    omega
/-- two that do not go together, ahead -/
theorem two_ahead {R : Int → Int → Prop} (dec : ∀ x y, R x y ∨ ¬ R x y) (sym : ∀ x y, R x y → R y x) : ∀ l : List Int, l.Pairwise R ∨ ∃ x y l', l.Perm (x :: y :: l') ∧ ¬ R x y
  | [] => .inl .nil
  | x :: l => by
    rcases two_ahead dec sym l with h | ⟨u, v, l', h, r⟩
    · by_cases q : ∀ y, y ∈ l → R x y
      · exact .inl (List.pairwise_cons.mpr ⟨q, h⟩)
      · right
        obtain ⟨y, hy, r⟩ : ∃ y, y ∈ l ∧ ¬ R x y := by
          refine Classical.byContradiction fun z => q fun y hy => ?_
          rcases dec x y with d | d
          · exact d
          · exact absurd ⟨y, hy, d⟩ z
        exact ⟨x, y, l.erase y, .cons x (List.perm_cons_erase hy), r⟩
    · right
      refine ⟨u, v, x :: l', ?_, r⟩
      exact (List.Perm.cons x h).trans (((List.Perm.swap u x _)).trans (.cons u (.swap v x _)))
theorem eq_id (a b c m S1 S2 S3 : Int) : m * m * (a * S3 + (b * S2 + c * S1 * S1) * S1) - S1 * S1 * S1 * (a + m * (b + m * c)) = (a * S1 + b * m * S1) * (m * S2 - S1 * S1) + a * m * (m * S3 - S1 * S2) := by grind
/-- the whole theorem -/
theorem six_nn {a b c : Int} {n : Nat} (hq : ∀ k : Int, 1 ≤ k → k ≤ n → 0 ≤ a + k * (b + k * c)) : ∀ (m : Nat) (xs : List Int), xs.length = m → m ≤ n → (∀ x, x ∈ xs → 0 ≤ x) → 0 ≤ six a b c xs := by
  intro m
  induction m with
  | zero =>
    intro xs hl _ _
    rw [List.eq_nil_of_length_eq_zero hl]
    simp [six, s1, s2, s3]
  | succ m ih =>
    intro xs hl hn nn
    have p0 : 0 ≤ s1 xs := by
      have : ∀ l : List Int, (∀ x, x ∈ l → 0 ≤ x) → 0 ≤ s1 l := fun l => by
        induction l with
        | nil =>
          intro _
          simp [s1]
        | cons x l ih2 =>
          intro h
          have := h x (List.mem_cons_self ..)
          have := ih2 fun y hy => h y (List.mem_cons_of_mem _ hy)
          simp only [s1]
          omega
      exact this xs nn
    rcases two_ahead (R := fun x y => 0 < 3 * a * (x + y) + 2 * b * s1 xs) (fun x y => by omega) (fun x y h => by rw [Int.add_comm y x]; exact h) xs with h | ⟨x, y, l, hp, r⟩
    · -- all pairs: the equal ones are least
      have e := eq_id a b c (xs.length : Int) (s1 xs) (s2 xs) (s3 xs)
      have d := prs_dev (a * s1 xs + b * (xs.length : Int) * s1 xs) (a * (xs.length : Int)) xs
      have q := hq (xs.length : Int) (by omega) (by omega)
      have c3 : 0 ≤ s1 xs * s1 xs * s1 xs := Int.mul_nonneg (Int.mul_nonneg p0 p0) p0
      have c4 := Int.mul_nonneg c3 q
      have nnp : 0 ≤ prs (fun x y => (x - y) * (x - y) * ((a * s1 xs + b * (xs.length : Int) * s1 xs) + a * (xs.length : Int) * (x + y))) xs := by
        by_cases two : 2 ≤ xs.length
        · have g := prs_pos (f := fun x y => 3 * a * (x + y) + 2 * b * s1 xs) (fun x y r => r) h two
          have g2 := prs_sum (3 * a) (2 * b * s1 xs) xs
          have k1 : 0 < 3 * a * s1 xs + (xs.length : Int) * b * s1 xs := by
            refine Int.not_le.mp fun z => ?_
            have := Int.mul_nonpos_of_nonneg_of_nonpos (show 0 ≤ (xs.length : Int) - 1 by omega) (show 2 * (3 * a * s1 xs + (xs.length : Int) * b * s1 xs) ≤ 0 by omega)
            have e2 : ((xs.length : Int) - 1) * (2 * (3 * a) * s1 xs + (xs.length : Int) * (2 * b * s1 xs)) = ((xs.length : Int) - 1) * (2 * (3 * a * s1 xs + (xs.length : Int) * b * s1 xs)) := by grind
            omega
          refine prs_nn (R := fun x y => 0 < 3 * a * (x + y) + 2 * b * s1 xs) (fun x y r => ?_) h
          refine Int.mul_nonneg ?_ ?_
          · rcases Int.le_total 0 (x - y) with z | z
            · exact Int.mul_nonneg z z
            · exact Int.mul_nonneg_of_nonpos_of_nonpos z z
          · have := Int.mul_nonneg (show 0 ≤ (xs.length : Int) by omega) (show 0 ≤ 3 * a * (x + y) + 2 * b * s1 xs by omega)
            have e3 : 3 * (a * s1 xs + b * (xs.length : Int) * s1 xs + a * (xs.length : Int) * (x + y)) = (xs.length : Int) * (3 * a * (x + y) + 2 * b * s1 xs) + (3 * a * s1 xs + (xs.length : Int) * b * s1 xs) := by grind
            omega
        · match xs, hl, two with
          | [z], _, _ => simp [prs]
          | z :: w :: l, _, two => exact absurd (by simp) two
      rw [d] at nnp
      have l1 : 0 < (xs.length : Int) * (xs.length : Int) := Int.mul_pos (by omega) (by omega)
      refine Int.not_lt.mp fun z => ?_
      have := Int.mul_neg_of_pos_of_neg l1 z
      unfold six at this
      omega
    · -- put together
      have hx : 0 ≤ x := nn x (hp.mem_iff.mpr (by simp))
      have hy : 0 ≤ y := nn y (hp.mem_iff.mpr (by simp))
      have lm : ((x + y) :: l).length = m := by
        have := hp.length_eq
        simp at this ⊢
        omega
      have g := ih ((x + y) :: l) lm (by omega) (fun z hz => by
        rcases List.mem_cons.mp hz with rfl | hz
        · omega
        · exact nn z (hp.mem_iff.mpr (by simp [hz])))
      obtain ⟨q1, q2, q3⟩ := perm_sums hp
      have e : six a b c xs - six a b c ((x + y) :: l) = -(x * y * (3 * a * (x + y) + 2 * b * s1 xs)) := by
        unfold six
        rw [q1, q2, q3]
        simp only [s1, s2, s3]
        grind
      have := Int.mul_nonpos_of_nonneg_of_nonpos (Int.mul_nonneg hx hy) (show 3 * a * (x + y) + 2 * b * s1 xs ≤ 0 by omega)
      omega
end S63
set_option maxHeartbeats 0
namespace T
open PySem PySem.Spec PyProof.Rows L2 Z
/-! ### the text by places -/
def topS (i : Nat) : Stmt := PySem.Challenge.pw_belownought_k63_exchanged_shares.main.body.getD i (.Pass ⟨0, 0, 0, 0⟩)
abbrev s_law_at : Stmt := topS 62
theorem sc_law_at : FnScope (["q", "k"] : List Str) (["q", "k"] : List Str) (defScope s_law_at) := ⟨rfl, rfl, rfl, by decide +kernel, rfl, by decide +kernel, by decide +kernel⟩
abbrev s_OutOfBoundsD_initD : Stmt := inClass (topS 6) 0
theorem sc_OutOfBoundsD_initD : FnScope (["self", "value"] : List Str) (["self", "value"] : List Str) (defScope s_OutOfBoundsD_initD) := ⟨rfl, rfl, rfl, by decide +kernel, rfl, by decide +kernel, by decide +kernel⟩
abbrev s_check_number : Stmt := topS 9
theorem sc_check_number : FnScope (["value", "low", "high"] : List Str) (["value", "low", "high"] : List Str) (defScope s_check_number) := ⟨rfl, rfl, rfl, by decide +kernel, rfl, by decide +kernel, by decide +kernel⟩
abbrev s_BadSizeD_initD : Stmt := inClass (topS 7) 0
theorem sc_BadSizeD_initD : FnScope (["self", "size"] : List Str) (["self", "size"] : List Str) (defScope s_BadSizeD_initD) := ⟨rfl, rfl, rfl, by decide +kernel, rfl, by decide +kernel, by decide +kernel⟩
abbrev s_check_size : Stmt := topS 10
theorem sc_check_size : FnScope (["things", "low", "high", "size"] : List Str) (["things", "low", "high"] : List Str) (defScope s_check_size) := ⟨rfl, rfl, rfl, by decide +kernel, rfl, by decide +kernel, by decide +kernel⟩
abbrev s_SixClaimD_initD : Stmt := inClass (topS 37) 0
theorem sc_SixClaimD_initD : FnScope (["self", "letters", "numbers"] : List Str) (["self", "letters", "numbers"] : List Str) (defScope s_SixClaimD_initD) := ⟨rfl, rfl, rfl, by decide +kernel, rfl, by decide +kernel, by decide +kernel⟩
abbrev s_lowest_terms : Stmt := topS 31
theorem sc_lowest_terms : FnScope (["numbers", "over", "size", "common", "number"] : List Str) (["numbers", "over"] : List Str) (defScope s_lowest_terms) := ⟨rfl, rfl, rfl, by decide +kernel, rfl, by decide +kernel, by decide +kernel⟩
abbrev s_PolyD_initD : Stmt := inClass (topS 30) 0
theorem sc_PolyD_initD : FnScope (["self", "numbers", "over"] : List Str) (["self", "numbers", "over"] : List Str) (defScope s_PolyD_initD) := ⟨rfl, rfl, rfl, by decide +kernel, rfl, by decide +kernel, by decide +kernel⟩
abbrev s_quadratic_of : Stmt := topS 38
theorem sc_quadratic_of : FnScope (["numbers", "over", "number"] : List Str) (["numbers"] : List Str) (defScope s_quadratic_of) := ⟨rfl, rfl, rfl, by decide +kernel, rfl, by decide +kernel, by decide +kernel⟩
abbrev s_SixClaim_quadratic : Stmt := inClass (topS 37) 3
theorem sc_SixClaim_quadratic : FnScope (["self"] : List Str) (["self"] : List Str) (defScope s_SixClaim_quadratic) := ⟨rfl, rfl, rfl, by decide +kernel, rfl, by decide +kernel, by decide +kernel⟩
abbrev s_whole_three : Stmt := topS 39
theorem sc_whole_three : FnScope (["q"] : List Str) (["q"] : List Str) (defScope s_whole_three) := ⟨rfl, rfl, rfl, by decide +kernel, rfl, by decide +kernel, by decide +kernel⟩
abbrev s_first_below : Stmt := topS 40
theorem sc_first_below : FnScope (["q", "letters", "free", "middle", "front", "k"] : List Str) (["q", "letters"] : List Str) (defScope s_first_below) := ⟨rfl, rfl, rfl, by decide +kernel, rfl, by decide +kernel, by decide +kernel⟩
abbrev s_SixClaim_holds : Stmt := inClass (topS 37) 5
theorem sc_SixClaim_holds : FnScope (["self"] : List Str) (["self"] : List Str) (defScope s_SixClaim_holds) := ⟨rfl, rfl, rfl, by decide +kernel, rfl, by decide +kernel, by decide +kernel⟩
abbrev s_law_flag : Stmt := topS 46
theorem sc_law_flag : FnScope (["x", "due"] : List Str) (["x", "due"] : List Str) (defScope s_law_flag) := ⟨rfl, rfl, rfl, by decide +kernel, rfl, by decide +kernel, by decide +kernel⟩
abbrev s_RatioD_initD : Stmt := inClass (topS 12) 0
theorem sc_RatioD_initD : FnScope (["self", "top", "bottom", "common"] : List Str) (["self", "top", "bottom"] : List Str) (defScope s_RatioD_initD) := ⟨rfl, rfl, rfl, by decide +kernel, rfl, by decide +kernel, by decide +kernel⟩
abbrev s_law_shares : Stmt := topS 50
theorem sc_law_shares : FnScope (["tops", "low", "top"] : List Str) (["tops", "low"] : List Str) (defScope s_law_shares) := ⟨rfl, rfl, rfl, by decide +kernel, rfl, by decide +kernel, by decide +kernel⟩
abbrev s_law_holds : Stmt := topS 63
theorem sc_law_holds : FnScope (["numbers", "over", "m", "due", "claim"] : List Str) (["numbers", "over", "m", "due"] : List Str) (defScope s_law_holds) := ⟨rfl, rfl, rfl, by decide +kernel, rfl, by decide +kernel, by decide +kernel⟩
abbrev s_law_claims : Stmt := topS 64
theorem sc_law_claims : FnScope (["numbers", "over", "m", "start", "values", "k", "least", "lower"] : List Str) (["numbers", "over", "m", "start"] : List Str) (defScope s_law_claims) := ⟨rfl, rfl, rfl, by decide +kernel, rfl, by decide +kernel, by decide +kernel⟩
abbrev s_law_cell : Stmt := topS 42
theorem sc_law_cell : FnScope (["cells", "k"] : List Str) (["cells", "k"] : List Str) (defScope s_law_cell) := ⟨rfl, rfl, rfl, by decide +kernel, rfl, by decide +kernel, by decide +kernel⟩
abbrev s_law_draw : Stmt := topS 43
theorem sc_law_draw : FnScope (["cells", "k", "step", "many"] : List Str) (["cells", "k", "step", "many"] : List Str) (defScope s_law_draw) := ⟨rfl, rfl, rfl, by decide +kernel, rfl, by decide +kernel, by decide +kernel⟩
abbrev s_law_many : Stmt := topS 44
theorem sc_law_many : FnScope (["cells"] : List Str) (["cells"] : List Str) (defScope s_law_many) := ⟨rfl, rfl, rfl, by decide +kernel, rfl, by decide +kernel, by decide +kernel⟩
abbrev s_law_whole : Stmt := topS 45
theorem sc_law_whole : FnScope (["x"] : List Str) (["x"] : List Str) (defScope s_law_whole) := ⟨rfl, rfl, rfl, by decide +kernel, rfl, by decide +kernel, by decide +kernel⟩
abbrev s_RatioD_addD : Stmt := inClass (topS 12) 2
theorem sc_RatioD_addD : FnScope (["self", "other"] : List Str) (["self", "other"] : List Str) (defScope s_RatioD_addD) := ⟨rfl, rfl, rfl, by decide +kernel, rfl, by decide +kernel, by decide +kernel⟩
abbrev s_RatioD_mulD : Stmt := inClass (topS 12) 4
theorem sc_RatioD_mulD : FnScope (["self", "other"] : List Str) (["self", "other"] : List Str) (defScope s_RatioD_mulD) := ⟨rfl, rfl, rfl, by decide +kernel, rfl, by decide +kernel, by decide +kernel⟩
abbrev s_NegativeD_initD : Stmt := inClass (topS 8) 0
theorem sc_NegativeD_initD : FnScope (["self", "ratio"] : List Str) (["self", "ratio"] : List Str) (defScope s_NegativeD_initD) := ⟨rfl, rfl, rfl, by decide +kernel, rfl, by decide +kernel, by decide +kernel⟩
abbrev s_Ratio_sign : Stmt := inClass (topS 12) 11
theorem sc_Ratio_sign : FnScope (["self"] : List Str) (["self"] : List Str) (defScope s_Ratio_sign) := ⟨rfl, rfl, rfl, by decide +kernel, rfl, by decide +kernel, by decide +kernel⟩
abbrev s_check_shares : Stmt := topS 17
theorem sc_check_shares : FnScope (["shares", "share"] : List Str) (["shares"] : List Str) (defScope s_check_shares) := ⟨rfl, rfl, rfl, by decide +kernel, rfl, by decide +kernel, by decide +kernel⟩
abbrev s_exchanged : Stmt := topS 20
theorem sc_exchanged : FnScope (["shares", "i", "j", "total", "halves", "moved"] : List Str) (["shares", "i", "j"] : List Str) (defScope s_exchanged) := ⟨rfl, rfl, rfl, by decide +kernel, rfl, by decide +kernel, by decide +kernel⟩
abbrev s_law_place : Stmt := topS 59
theorem sc_law_place : FnScope (["given", "i", "j", "value", "e"] : List Str) (["given", "i", "j", "value"] : List Str) (defScope s_law_place) := ⟨rfl, rfl, rfl, by decide +kernel, rfl, by decide +kernel, by decide +kernel⟩
abbrev s_law_places : Stmt := topS 60
theorem sc_law_places : FnScope (["given", "i", "j", "m", "wrong", "one"] : List Str) (["given", "i", "j"] : List Str) (defScope s_law_places) := ⟨rfl, rfl, rfl, by decide +kernel, rfl, by decide +kernel, by decide +kernel⟩
abbrev s_law_fraction : Stmt := topS 47
theorem sc_law_fraction : FnScope (["x"] : List Str) (["x"] : List Str) (defScope s_law_fraction) := ⟨rfl, rfl, rfl, by decide +kernel, rfl, by decide +kernel, by decide +kernel⟩
abbrev s_law_is : Stmt := topS 48
theorem sc_law_is : FnScope (["x", "top", "bottom"] : List Str) (["x", "top", "bottom"] : List Str) (defScope s_law_is) := ⟨rfl, rfl, rfl, by decide +kernel, rfl, by decide +kernel, by decide +kernel⟩
abbrev s_ratio_sum : Stmt := topS 13
theorem sc_ratio_sum : FnScope (["ratios", "bottom", "ratio", "top"] : List Str) (["ratios"] : List Str) (defScope s_ratio_sum) := ⟨rfl, rfl, rfl, by decide +kernel, rfl, by decide +kernel, by decide +kernel⟩
abbrev s_six_value : Stmt := topS 18
theorem sc_six_value : FnScope (["numbers", "shares", "squares", "share", "first", "second", "third", "square"] : List Str) (["numbers", "shares"] : List Str) (defScope s_six_value) := ⟨rfl, rfl, rfl, by decide +kernel, rfl, by decide +kernel, by decide +kernel⟩
abbrev s_six_of_shares : Stmt := topS 19
theorem sc_six_of_shares : FnScope (["numbers", "shares"] : List Str) (["numbers", "shares"] : List Str) (defScope s_six_of_shares) := ⟨rfl, rfl, rfl, by decide +kernel, rfl, by decide +kernel, by decide +kernel⟩
abbrev s_law_negative : Stmt := topS 57
theorem sc_law_negative : FnScope (["numbers", "given", "top", "low", "way", "e"] : List Str) (["numbers", "given", "top", "low", "way"] : List Str) (defScope s_law_negative) := ⟨rfl, rfl, rfl, by decide +kernel, rfl, by decide +kernel, by decide +kernel⟩
abbrev s_law_size : Stmt := topS 58
theorem sc_law_size : FnScope (["numbers", "given", "size", "way", "e"] : List Str) (["numbers", "given", "size", "way"] : List Str) (defScope s_law_size) := ⟨rfl, rfl, rfl, by decide +kernel, rfl, by decide +kernel, by decide +kernel⟩
abbrev s_law_refusals : Stmt := topS 61
theorem sc_law_refusals : FnScope (["tops", "low", "at", "behind", "amount", "numbers", "bad", "way", "fine", "count", "some", "k", "given", "long"] : List Str) (["tops", "low", "at", "behind", "amount"] : List Str) (defScope s_law_refusals) := ⟨rfl, rfl, rfl, by decide +kernel, rfl, by decide +kernel, by decide +kernel⟩
abbrev s_law_six : Stmt := topS 51
theorem sc_law_six : FnScope (["numbers", "tops", "one", "two", "x", "three", "rest"] : List Str) (["numbers", "tops"] : List Str) (defScope s_law_six) := ⟨rfl, rfl, rfl, by decide +kernel, rfl, by decide +kernel, by decide +kernel⟩
abbrev s_law_halves : Stmt := topS 53
theorem sc_law_halves : FnScope (["tops", "i", "j", "row", "x"] : List Str) (["tops", "i", "j"] : List Str) (defScope s_law_halves) := ⟨rfl, rfl, rfl, by decide +kernel, rfl, by decide +kernel, by decide +kernel⟩
abbrev s_law_list : Stmt := topS 49
theorem sc_law_list : FnScope (["x", "tops", "low", "k"] : List Str) (["x", "tops", "low"] : List Str) (defScope s_law_list) := ⟨rfl, rfl, rfl, by decide +kernel, rfl, by decide +kernel, by decide +kernel⟩
abbrev s_law_moved : Stmt := topS 54
theorem sc_law_moved : FnScope (["tops", "i", "j", "row", "x"] : List Str) (["tops", "i", "j"] : List Str) (defScope s_law_moved) := ⟨rfl, rfl, rfl, by decide +kernel, rfl, by decide +kernel, by decide +kernel⟩
abbrev s_law_both : Stmt := topS 55
theorem sc_law_both : FnScope (["told", "tops", "low", "i", "j"] : List Str) (["told", "tops", "low", "i", "j"] : List Str) (defScope s_law_both) := ⟨rfl, rfl, rfl, by decide +kernel, rfl, by decide +kernel, by decide +kernel⟩
abbrev s_law_value : Stmt := topS 52
theorem sc_law_value : FnScope (["numbers", "over", "given", "tops", "low", "told"] : List Str) (["numbers", "over", "given", "tops", "low"] : List Str) (defScope s_law_value) := ⟨rfl, rfl, rfl, by decide +kernel, rfl, by decide +kernel, by decide +kernel⟩
abbrev s_law_step : Stmt := topS 56
theorem sc_law_step : FnScope (["numbers", "over", "given", "tops", "low", "i", "j", "kept", "told", "rows", "values", "row", "k", "least", "again"] : List Str) (["numbers", "over", "given", "tops", "low", "i", "j"] : List Str) (defScope s_law_step) := ⟨rfl, rfl, rfl, by decide +kernel, rfl, by decide +kernel, by decide +kernel⟩
abbrev s_law : Stmt := topS 65
theorem sc_law : FnScope (["script", "cells", "m", "low", "drawn", "k", "tops", "x", "scale", "numbers", "over", "given", "start", "i", "j", "amount", "step", "found"] : List Str) (["script"] : List Str) (defScope s_law) := ⟨rfl, rfl, rfl, by decide +kernel, rfl, by decide +kernel, by decide +kernel⟩
/-! ### facts -/
def df_law_at : He5.DefA := ⟨fun K => He.fAd K ("_law_at", none), "_law_at", "_law_at", defArgs s_law_at, defBody s_law_at, defScope s_law_at, [], []⟩
def df_OutOfBoundsD_initD : He5.DefA := ⟨fun K => He.fAd K ("OutOfBounds", some "__init__"), "__init__", "OutOfBounds.__init__", defArgs s_OutOfBoundsD_initD, defBody s_OutOfBoundsD_initD, defScope s_OutOfBoundsD_initD, [], []⟩
def df_check_number : He5.DefA := ⟨fun K => He.fAd K ("check_number", none), "check_number", "check_number", defArgs s_check_number, defBody s_check_number, defScope s_check_number, [.non], []⟩
def df_BadSizeD_initD : He5.DefA := ⟨fun K => He.fAd K ("BadSize", some "__init__"), "__init__", "BadSize.__init__", defArgs s_BadSizeD_initD, defBody s_BadSizeD_initD, defScope s_BadSizeD_initD, [], []⟩
def df_check_size : He5.DefA := ⟨fun K => He.fAd K ("check_size", none), "check_size", "check_size", defArgs s_check_size, defBody s_check_size, defScope s_check_size, [], []⟩
def df_SixClaimD_initD : He5.DefA := ⟨fun K => He.fAd K ("SixClaim", some "__init__"), "__init__", "SixClaim.__init__", defArgs s_SixClaimD_initD, defBody s_SixClaimD_initD, defScope s_SixClaimD_initD, [], []⟩
def df_lowest_terms : He5.DefA := ⟨fun K => He.fAd K ("lowest_terms", none), "lowest_terms", "lowest_terms", defArgs s_lowest_terms, defBody s_lowest_terms, defScope s_lowest_terms, [], []⟩
def df_PolyD_initD : He5.DefA := ⟨fun K => He.fAd K ("Poly", some "__init__"), "__init__", "Poly.__init__", defArgs s_PolyD_initD, defBody s_PolyD_initD, defScope s_PolyD_initD, [.int 1], []⟩
def df_quadratic_of : He5.DefA := ⟨fun K => He.fAd K ("quadratic_of", none), "quadratic_of", "quadratic_of", defArgs s_quadratic_of, defBody s_quadratic_of, defScope s_quadratic_of, [], []⟩
def df_SixClaim_quadratic : He5.DefA := ⟨fun K => He.fAd K ("SixClaim", some "quadratic"), "quadratic", "SixClaim.quadratic", defArgs s_SixClaim_quadratic, defBody s_SixClaim_quadratic, defScope s_SixClaim_quadratic, [], []⟩
def df_whole_three : He5.DefA := ⟨fun K => He.fAd K ("whole_three", none), "whole_three", "whole_three", defArgs s_whole_three, defBody s_whole_three, defScope s_whole_three, [], []⟩
def df_first_below : He5.DefA := ⟨fun K => He.fAd K ("first_below", none), "first_below", "first_below", defArgs s_first_below, defBody s_first_below, defScope s_first_below, [], []⟩
def df_SixClaim_holds : He5.DefA := ⟨fun K => He.fAd K ("SixClaim", some "holds"), "holds", "SixClaim.holds", defArgs s_SixClaim_holds, defBody s_SixClaim_holds, defScope s_SixClaim_holds, [], []⟩
def df_law_flag : He5.DefA := ⟨fun K => He.fAd K ("_law_flag", none), "_law_flag", "_law_flag", defArgs s_law_flag, defBody s_law_flag, defScope s_law_flag, [], []⟩
def df_RatioD_initD : He5.DefA := ⟨fun K => He.fAd K ("Ratio", some "__init__"), "__init__", "Ratio.__init__", defArgs s_RatioD_initD, defBody s_RatioD_initD, defScope s_RatioD_initD, [.int 1], []⟩
def df_law_shares : He5.DefA := ⟨fun K => He.fAd K ("_law_shares", none), "_law_shares", "_law_shares", defArgs s_law_shares, defBody s_law_shares, defScope s_law_shares, [], []⟩
def df_law_holds : He5.DefA := ⟨fun K => He.fAd K ("_law_holds", none), "_law_holds", "_law_holds", defArgs s_law_holds, defBody s_law_holds, defScope s_law_holds, [], []⟩
def df_law_claims : He5.DefA := ⟨fun K => He.fAd K ("_law_claims", none), "_law_claims", "_law_claims", defArgs s_law_claims, defBody s_law_claims, defScope s_law_claims, [], []⟩
def df_law_cell : He5.DefA := ⟨fun K => He.fAd K ("_law_cell", none), "_law_cell", "_law_cell", defArgs s_law_cell, defBody s_law_cell, defScope s_law_cell, [], []⟩
def df_law_draw : He5.DefA := ⟨fun K => He.fAd K ("_law_draw", none), "_law_draw", "_law_draw", defArgs s_law_draw, defBody s_law_draw, defScope s_law_draw, [], []⟩
def df_law_many : He5.DefA := ⟨fun K => He.fAd K ("_law_many", none), "_law_many", "_law_many", defArgs s_law_many, defBody s_law_many, defScope s_law_many, [], []⟩
def df_law_whole : He5.DefA := ⟨fun K => He.fAd K ("_law_whole", none), "_law_whole", "_law_whole", defArgs s_law_whole, defBody s_law_whole, defScope s_law_whole, [], []⟩
def df_RatioD_addD : He5.DefA := ⟨fun K => He.fAd K ("Ratio", some "__add__"), "__add__", "Ratio.__add__", defArgs s_RatioD_addD, defBody s_RatioD_addD, defScope s_RatioD_addD, [], []⟩
def df_RatioD_mulD : He5.DefA := ⟨fun K => He.fAd K ("Ratio", some "__mul__"), "__mul__", "Ratio.__mul__", defArgs s_RatioD_mulD, defBody s_RatioD_mulD, defScope s_RatioD_mulD, [], []⟩
def df_NegativeD_initD : He5.DefA := ⟨fun K => He.fAd K ("Negative", some "__init__"), "__init__", "Negative.__init__", defArgs s_NegativeD_initD, defBody s_NegativeD_initD, defScope s_NegativeD_initD, [], []⟩
def df_Ratio_sign : He5.DefA := ⟨fun K => He.fAd K ("Ratio", some "sign"), "sign", "Ratio.sign", defArgs s_Ratio_sign, defBody s_Ratio_sign, defScope s_Ratio_sign, [], []⟩
def df_check_shares : He5.DefA := ⟨fun K => He.fAd K ("check_shares", none), "check_shares", "check_shares", defArgs s_check_shares, defBody s_check_shares, defScope s_check_shares, [], []⟩
def df_exchanged : He5.DefA := ⟨fun K => He.fAd K ("exchanged", none), "exchanged", "exchanged", defArgs s_exchanged, defBody s_exchanged, defScope s_exchanged, [], []⟩
def df_law_place : He5.DefA := ⟨fun K => He.fAd K ("_law_place", none), "_law_place", "_law_place", defArgs s_law_place, defBody s_law_place, defScope s_law_place, [], []⟩
def df_law_places : He5.DefA := ⟨fun K => He.fAd K ("_law_places", none), "_law_places", "_law_places", defArgs s_law_places, defBody s_law_places, defScope s_law_places, [], []⟩
def df_law_fraction : He5.DefA := ⟨fun K => He.fAd K ("_law_fraction", none), "_law_fraction", "_law_fraction", defArgs s_law_fraction, defBody s_law_fraction, defScope s_law_fraction, [], []⟩
def df_law_is : He5.DefA := ⟨fun K => He.fAd K ("_law_is", none), "_law_is", "_law_is", defArgs s_law_is, defBody s_law_is, defScope s_law_is, [], []⟩
def df_ratio_sum : He5.DefA := ⟨fun K => He.fAd K ("ratio_sum", none), "ratio_sum", "ratio_sum", defArgs s_ratio_sum, defBody s_ratio_sum, defScope s_ratio_sum, [], []⟩
def df_six_value : He5.DefA := ⟨fun K => He.fAd K ("six_value", none), "six_value", "six_value", defArgs s_six_value, defBody s_six_value, defScope s_six_value, [], []⟩
def df_six_of_shares : He5.DefA := ⟨fun K => He.fAd K ("six_of_shares", none), "six_of_shares", "six_of_shares", defArgs s_six_of_shares, defBody s_six_of_shares, defScope s_six_of_shares, [], []⟩
def df_law_negative : He5.DefA := ⟨fun K => He.fAd K ("_law_negative", none), "_law_negative", "_law_negative", defArgs s_law_negative, defBody s_law_negative, defScope s_law_negative, [], []⟩
def df_law_size : He5.DefA := ⟨fun K => He.fAd K ("_law_size", none), "_law_size", "_law_size", defArgs s_law_size, defBody s_law_size, defScope s_law_size, [], []⟩
def df_law_refusals : He5.DefA := ⟨fun K => He.fAd K ("_law_refusals", none), "_law_refusals", "_law_refusals", defArgs s_law_refusals, defBody s_law_refusals, defScope s_law_refusals, [], []⟩
def df_law_six : He5.DefA := ⟨fun K => He.fAd K ("_law_six", none), "_law_six", "_law_six", defArgs s_law_six, defBody s_law_six, defScope s_law_six, [], []⟩
def df_law_halves : He5.DefA := ⟨fun K => He.fAd K ("_law_halves", none), "_law_halves", "_law_halves", defArgs s_law_halves, defBody s_law_halves, defScope s_law_halves, [], []⟩
def df_law_list : He5.DefA := ⟨fun K => He.fAd K ("_law_list", none), "_law_list", "_law_list", defArgs s_law_list, defBody s_law_list, defScope s_law_list, [], []⟩
def df_law_moved : He5.DefA := ⟨fun K => He.fAd K ("_law_moved", none), "_law_moved", "_law_moved", defArgs s_law_moved, defBody s_law_moved, defScope s_law_moved, [], []⟩
def df_law_both : He5.DefA := ⟨fun K => He.fAd K ("_law_both", none), "_law_both", "_law_both", defArgs s_law_both, defBody s_law_both, defScope s_law_both, [], []⟩
def df_law_value : He5.DefA := ⟨fun K => He.fAd K ("_law_value", none), "_law_value", "_law_value", defArgs s_law_value, defBody s_law_value, defScope s_law_value, [], []⟩
def df_law_step : He5.DefA := ⟨fun K => He.fAd K ("_law_step", none), "_law_step", "_law_step", defArgs s_law_step, defBody s_law_step, defScope s_law_step, [], []⟩
def df_law : He5.DefA := ⟨fun K => He.fAd K ("law", none), "law", "law", defArgs s_law, defBody s_law, defScope s_law, [], []⟩
def fn : List He5.DefA := [df_law_at, df_OutOfBoundsD_initD, df_check_number, df_BadSizeD_initD, df_check_size, df_SixClaimD_initD, df_lowest_terms, df_PolyD_initD, df_quadratic_of, df_SixClaim_quadratic, df_whole_three, df_first_below, df_SixClaim_holds, df_law_flag, df_RatioD_initD, df_law_shares, df_law_holds, df_law_claims, df_law_cell, df_law_draw, df_law_many, df_law_whole, df_RatioD_addD, df_RatioD_mulD, df_NegativeD_initD, df_Ratio_sign, df_check_shares, df_exchanged, df_law_place, df_law_places, df_law_fraction, df_law_is, df_ratio_sum, df_six_value, df_six_of_shares, df_law_negative, df_law_size, df_law_refusals, df_law_six, df_law_halves, df_law_list, df_law_moved, df_law_both, df_law_value, df_law_step, df_law]
def fb : List Chk := [cGlo "BadSize", cGlo "Negative", cGlo "NoughtError", cGlo "OutOfBounds", cGlo "Poly", cGlo "Ratio", cGlo "SixClaim", cGlo "ZeroBottom", cGlo "_law_at", cGlo "_law_both", cGlo "_law_cell", cGlo "_law_claims", cGlo "_law_draw", cGlo "_law_flag", cGlo "_law_fraction", cGlo "_law_halves", cGlo "_law_holds", cGlo "_law_is", cGlo "_law_list", cGlo "_law_many", cGlo "_law_moved", cGlo "_law_negative", cGlo "_law_place", cGlo "_law_places", cGlo "_law_refusals", cGlo "_law_shares", cGlo "_law_six", cGlo "_law_size", cGlo "_law_step", cGlo "_law_value", cGlo "_law_whole", cGlo "check_number", cGlo "check_shares", cGlo "check_size", cGlo "exchanged", cGlo "first_below", cGlo "law", cGlo "lowest_terms", cGlo "quadratic_of", cGlo "ratio_sum", cGlo "six_of_shares", cGlo "six_value", cGlo "whole_three", cFree "abs", cFree "all", cFree "bool", cVal "gcd" "math.gcd", cFree "int", cFree "isinstance", cVal "lcm" "math.lcm", cFree "len", cFree "list", cFree "max", cFree "min", cFree "range", cFree "sum", cFree "tuple", cFree "zip", cCls "Ratio", cIns "Ratio", cMk "Ratio", cSelf "Ratio", cNo "Ratio" "bottom", cNo "Ratio" "top", cMeth "Ratio" "__add__", cMeth "Ratio" "__mul__", cMeth "Ratio" "sign", cCls "Poly", cIns "Poly", cMk "Poly", cSelf "Poly", cNo "Poly" "degree", cNo "Poly" "numbers", cNo "Poly" "over", cCls "SixClaim", cIns "SixClaim", cMk "SixClaim", cSelf "SixClaim", cNo "SixClaim" "letters", cNo "SixClaim" "numbers", cMeth "SixClaim" "quadratic", cMeth "SixClaim" "holds", cOex "BadSize", cNo "BadSize" "size", cOex "Negative", cNo "Negative" "ratio", cOex "OutOfBounds", cNo "OutOfBounds" "value", cExc0 "ZeroBottom", cExm "BadSize" "BadSize" true, cExm "BadSize" "Negative" false, cExm "BadSize" "OutOfBounds" false, cExm "Negative" "BadSize" false, cExm "Negative" "Negative" true, cExm "Negative" "OutOfBounds" false, cExm "OutOfBounds" "BadSize" false, cExm "OutOfBounds" "Negative" false, cExm "OutOfBounds" "OutOfBounds" true, cExm "ZeroBottom" "BadSize" false, cExm "ZeroBottom" "Negative" false, cExm "ZeroBottom" "OutOfBounds" false, cExcC "BadSize", cExcC "Negative", cExcC "OutOfBounds", cExcC "ZeroBottom", cKit "Negative" "BadSize" false, cKit "Negative" "OutOfBounds" false, cKit "Negative" "NoughtError" true, cKit "BadSize" "Negative" false, cKit "BadSize" "OutOfBounds" false, cKit "BadSize" "NoughtError" true, cKit "OutOfBounds" "Negative" false, cKit "OutOfBounds" "BadSize" false, cKit "OutOfBounds" "NoughtError" true, cKit "Ratio" "Ratio" true]
abbrev Lw (K : Frag) (mg : Str → Option Value) : Prop := LwB fb fn K mg
section
variable {K : Frag} {mg : Str → Option Value}
theorem Lw.g_BadSize (L : Lw K mg) : mg "BadSize" = some (.ref (He.ga K "BadSize")) := by
  obtain ⟨h, X, G⟩ := L.at_
  exact He.glo_ok X G (L.c.fact 0 rfl)
theorem Lw.g_Negative (L : Lw K mg) : mg "Negative" = some (.ref (He.ga K "Negative")) := by
  obtain ⟨h, X, G⟩ := L.at_
  exact He.glo_ok X G (L.c.fact 1 rfl)
theorem Lw.g_NoughtError (L : Lw K mg) : mg "NoughtError" = some (.ref (He.ga K "NoughtError")) := by
  obtain ⟨h, X, G⟩ := L.at_
  exact He.glo_ok X G (L.c.fact 2 rfl)
theorem Lw.g_OutOfBounds (L : Lw K mg) : mg "OutOfBounds" = some (.ref (He.ga K "OutOfBounds")) := by
  obtain ⟨h, X, G⟩ := L.at_
  exact He.glo_ok X G (L.c.fact 3 rfl)
theorem Lw.g_Poly (L : Lw K mg) : mg "Poly" = some (.ref (He.ga K "Poly")) := by
  obtain ⟨h, X, G⟩ := L.at_
  exact He.glo_ok X G (L.c.fact 4 rfl)
theorem Lw.g_Ratio (L : Lw K mg) : mg "Ratio" = some (.ref (He.ga K "Ratio")) := by
  obtain ⟨h, X, G⟩ := L.at_
  exact He.glo_ok X G (L.c.fact 5 rfl)
theorem Lw.g_SixClaim (L : Lw K mg) : mg "SixClaim" = some (.ref (He.ga K "SixClaim")) := by
  obtain ⟨h, X, G⟩ := L.at_
  exact He.glo_ok X G (L.c.fact 6 rfl)
theorem Lw.g_ZeroBottom (L : Lw K mg) : mg "ZeroBottom" = some (.ref (He.ga K "ZeroBottom")) := by
  obtain ⟨h, X, G⟩ := L.at_
  exact He.glo_ok X G (L.c.fact 7 rfl)
theorem Lw.g_law_at (L : Lw K mg) : mg "_law_at" = some (.ref (He.ga K "_law_at")) := by
  obtain ⟨h, X, G⟩ := L.at_
  exact He.glo_ok X G (L.c.fact 8 rfl)
theorem Lw.g_law_both (L : Lw K mg) : mg "_law_both" = some (.ref (He.ga K "_law_both")) := by
  obtain ⟨h, X, G⟩ := L.at_
  exact He.glo_ok X G (L.c.fact 9 rfl)
theorem Lw.g_law_cell (L : Lw K mg) : mg "_law_cell" = some (.ref (He.ga K "_law_cell")) := by
  obtain ⟨h, X, G⟩ := L.at_
  exact He.glo_ok X G (L.c.fact 10 rfl)
theorem Lw.g_law_claims (L : Lw K mg) : mg "_law_claims" = some (.ref (He.ga K "_law_claims")) := by
  obtain ⟨h, X, G⟩ := L.at_
  exact He.glo_ok X G (L.c.fact 11 rfl)
theorem Lw.g_law_draw (L : Lw K mg) : mg "_law_draw" = some (.ref (He.ga K "_law_draw")) := by
  obtain ⟨h, X, G⟩ := L.at_
  exact He.glo_ok X G (L.c.fact 12 rfl)
theorem Lw.g_law_flag (L : Lw K mg) : mg "_law_flag" = some (.ref (He.ga K "_law_flag")) := by
  obtain ⟨h, X, G⟩ := L.at_
  exact He.glo_ok X G (L.c.fact 13 rfl)
theorem Lw.g_law_fraction (L : Lw K mg) : mg "_law_fraction" = some (.ref (He.ga K "_law_fraction")) := by
  obtain ⟨h, X, G⟩ := L.at_
  exact He.glo_ok X G (L.c.fact 14 rfl)
theorem Lw.g_law_halves (L : Lw K mg) : mg "_law_halves" = some (.ref (He.ga K "_law_halves")) := by
  obtain ⟨h, X, G⟩ := L.at_
  exact He.glo_ok X G (L.c.fact 15 rfl)
theorem Lw.g_law_holds (L : Lw K mg) : mg "_law_holds" = some (.ref (He.ga K "_law_holds")) := by
  obtain ⟨h, X, G⟩ := L.at_
  exact He.glo_ok X G (L.c.fact 16 rfl)
theorem Lw.g_law_is (L : Lw K mg) : mg "_law_is" = some (.ref (He.ga K "_law_is")) := by
  obtain ⟨h, X, G⟩ := L.at_
  exact He.glo_ok X G (L.c.fact 17 rfl)
theorem Lw.g_law_list (L : Lw K mg) : mg "_law_list" = some (.ref (He.ga K "_law_list")) := by
  obtain ⟨h, X, G⟩ := L.at_
  exact He.glo_ok X G (L.c.fact 18 rfl)
theorem Lw.g_law_many (L : Lw K mg) : mg "_law_many" = some (.ref (He.ga K "_law_many")) := by
  obtain ⟨h, X, G⟩ := L.at_
  exact He.glo_ok X G (L.c.fact 19 rfl)
theorem Lw.g_law_moved (L : Lw K mg) : mg "_law_moved" = some (.ref (He.ga K "_law_moved")) := by
  obtain ⟨h, X, G⟩ := L.at_
  exact He.glo_ok X G (L.c.fact 20 rfl)
theorem Lw.g_law_negative (L : Lw K mg) : mg "_law_negative" = some (.ref (He.ga K "_law_negative")) := by
  obtain ⟨h, X, G⟩ := L.at_
  exact He.glo_ok X G (L.c.fact 21 rfl)
theorem Lw.g_law_place (L : Lw K mg) : mg "_law_place" = some (.ref (He.ga K "_law_place")) := by
  obtain ⟨h, X, G⟩ := L.at_
  exact He.glo_ok X G (L.c.fact 22 rfl)
theorem Lw.g_law_places (L : Lw K mg) : mg "_law_places" = some (.ref (He.ga K "_law_places")) := by
  obtain ⟨h, X, G⟩ := L.at_
  exact He.glo_ok X G (L.c.fact 23 rfl)
theorem Lw.g_law_refusals (L : Lw K mg) : mg "_law_refusals" = some (.ref (He.ga K "_law_refusals")) := by
  obtain ⟨h, X, G⟩ := L.at_
  exact He.glo_ok X G (L.c.fact 24 rfl)
theorem Lw.g_law_shares (L : Lw K mg) : mg "_law_shares" = some (.ref (He.ga K "_law_shares")) := by
  obtain ⟨h, X, G⟩ := L.at_
  exact He.glo_ok X G (L.c.fact 25 rfl)
theorem Lw.g_law_six (L : Lw K mg) : mg "_law_six" = some (.ref (He.ga K "_law_six")) := by
  obtain ⟨h, X, G⟩ := L.at_
  exact He.glo_ok X G (L.c.fact 26 rfl)
theorem Lw.g_law_size (L : Lw K mg) : mg "_law_size" = some (.ref (He.ga K "_law_size")) := by
  obtain ⟨h, X, G⟩ := L.at_
  exact He.glo_ok X G (L.c.fact 27 rfl)
theorem Lw.g_law_step (L : Lw K mg) : mg "_law_step" = some (.ref (He.ga K "_law_step")) := by
  obtain ⟨h, X, G⟩ := L.at_
  exact He.glo_ok X G (L.c.fact 28 rfl)
theorem Lw.g_law_value (L : Lw K mg) : mg "_law_value" = some (.ref (He.ga K "_law_value")) := by
  obtain ⟨h, X, G⟩ := L.at_
  exact He.glo_ok X G (L.c.fact 29 rfl)
theorem Lw.g_law_whole (L : Lw K mg) : mg "_law_whole" = some (.ref (He.ga K "_law_whole")) := by
  obtain ⟨h, X, G⟩ := L.at_
  exact He.glo_ok X G (L.c.fact 30 rfl)
theorem Lw.g_check_number (L : Lw K mg) : mg "check_number" = some (.ref (He.ga K "check_number")) := by
  obtain ⟨h, X, G⟩ := L.at_
  exact He.glo_ok X G (L.c.fact 31 rfl)
theorem Lw.g_check_shares (L : Lw K mg) : mg "check_shares" = some (.ref (He.ga K "check_shares")) := by
  obtain ⟨h, X, G⟩ := L.at_
  exact He.glo_ok X G (L.c.fact 32 rfl)
theorem Lw.g_check_size (L : Lw K mg) : mg "check_size" = some (.ref (He.ga K "check_size")) := by
  obtain ⟨h, X, G⟩ := L.at_
  exact He.glo_ok X G (L.c.fact 33 rfl)
theorem Lw.g_exchanged (L : Lw K mg) : mg "exchanged" = some (.ref (He.ga K "exchanged")) := by
  obtain ⟨h, X, G⟩ := L.at_
  exact He.glo_ok X G (L.c.fact 34 rfl)
theorem Lw.g_first_below (L : Lw K mg) : mg "first_below" = some (.ref (He.ga K "first_below")) := by
  obtain ⟨h, X, G⟩ := L.at_
  exact He.glo_ok X G (L.c.fact 35 rfl)
theorem Lw.g_law (L : Lw K mg) : mg "law" = some (.ref (He.ga K "law")) := by
  obtain ⟨h, X, G⟩ := L.at_
  exact He.glo_ok X G (L.c.fact 36 rfl)
theorem Lw.g_lowest_terms (L : Lw K mg) : mg "lowest_terms" = some (.ref (He.ga K "lowest_terms")) := by
  obtain ⟨h, X, G⟩ := L.at_
  exact He.glo_ok X G (L.c.fact 37 rfl)
theorem Lw.g_quadratic_of (L : Lw K mg) : mg "quadratic_of" = some (.ref (He.ga K "quadratic_of")) := by
  obtain ⟨h, X, G⟩ := L.at_
  exact He.glo_ok X G (L.c.fact 38 rfl)
theorem Lw.g_ratio_sum (L : Lw K mg) : mg "ratio_sum" = some (.ref (He.ga K "ratio_sum")) := by
  obtain ⟨h, X, G⟩ := L.at_
  exact He.glo_ok X G (L.c.fact 39 rfl)
theorem Lw.g_six_of_shares (L : Lw K mg) : mg "six_of_shares" = some (.ref (He.ga K "six_of_shares")) := by
  obtain ⟨h, X, G⟩ := L.at_
  exact He.glo_ok X G (L.c.fact 40 rfl)
theorem Lw.g_six_value (L : Lw K mg) : mg "six_value" = some (.ref (He.ga K "six_value")) := by
  obtain ⟨h, X, G⟩ := L.at_
  exact He.glo_ok X G (L.c.fact 41 rfl)
theorem Lw.g_whole_three (L : Lw K mg) : mg "whole_three" = some (.ref (He.ga K "whole_three")) := by
  obtain ⟨h, X, G⟩ := L.at_
  exact He.glo_ok X G (L.c.fact 42 rfl)
theorem Lw.f_abs (L : Lw K mg) : mg "abs" = none := by
  obtain ⟨h, X, G⟩ := L.at_
  exact He.free_ok X G (L.c.fact 43 rfl)
theorem Lw.f_all (L : Lw K mg) : mg "all" = none := by
  obtain ⟨h, X, G⟩ := L.at_
  exact He.free_ok X G (L.c.fact 44 rfl)
theorem Lw.f_bool (L : Lw K mg) : mg "bool" = none := by
  obtain ⟨h, X, G⟩ := L.at_
  exact He.free_ok X G (L.c.fact 45 rfl)
theorem Lw.v_gcd (L : Lw K mg) : mg "gcd" = some (.builtin "math.gcd") := by
  obtain ⟨h, X, G⟩ := L.at_
  exact PySem.W.mg_of X G (He.eqO_ok (L.c.fact 46 rfl))
theorem Lw.f_int (L : Lw K mg) : mg "int" = none := by
  obtain ⟨h, X, G⟩ := L.at_
  exact He.free_ok X G (L.c.fact 47 rfl)
theorem Lw.f_isinstance (L : Lw K mg) : mg "isinstance" = none := by
  obtain ⟨h, X, G⟩ := L.at_
  exact He.free_ok X G (L.c.fact 48 rfl)
theorem Lw.v_lcm (L : Lw K mg) : mg "lcm" = some (.builtin "math.lcm") := by
  obtain ⟨h, X, G⟩ := L.at_
  exact PySem.W.mg_of X G (He.eqO_ok (L.c.fact 49 rfl))
theorem Lw.f_len (L : Lw K mg) : mg "len" = none := by
  obtain ⟨h, X, G⟩ := L.at_
  exact He.free_ok X G (L.c.fact 50 rfl)
theorem Lw.f_list (L : Lw K mg) : mg "list" = none := by
  obtain ⟨h, X, G⟩ := L.at_
  exact He.free_ok X G (L.c.fact 51 rfl)
theorem Lw.f_max (L : Lw K mg) : mg "max" = none := by
  obtain ⟨h, X, G⟩ := L.at_
  exact He.free_ok X G (L.c.fact 52 rfl)
theorem Lw.f_min (L : Lw K mg) : mg "min" = none := by
  obtain ⟨h, X, G⟩ := L.at_
  exact He.free_ok X G (L.c.fact 53 rfl)
theorem Lw.f_range (L : Lw K mg) : mg "range" = none := by
  obtain ⟨h, X, G⟩ := L.at_
  exact He.free_ok X G (L.c.fact 54 rfl)
theorem Lw.f_sum (L : Lw K mg) : mg "sum" = none := by
  obtain ⟨h, X, G⟩ := L.at_
  exact He.free_ok X G (L.c.fact 55 rfl)
theorem Lw.f_tuple (L : Lw K mg) : mg "tuple" = none := by
  obtain ⟨h, X, G⟩ := L.at_
  exact He.free_ok X G (L.c.fact 56 rfl)
theorem Lw.f_zip (L : Lw K mg) : mg "zip" = none := by
  obtain ⟨h, X, G⟩ := L.at_
  exact He.free_ok X G (L.c.fact 57 rfl)
theorem Lw.cl_Ratio (L : Lw K mg) : Cls K (He.ga K "Ratio") := He.cls_ok (L.c.fact 58 rfl)
theorem Lw.in_Ratio (L : Lw K mg) : InsK K (He.ga K "Ratio") := insK_ok (L.c.fact 59 rfl)
theorem Lw.mk_Ratio (L : Lw K mg) : Mk K (He.ga K "Ratio") (He.ma K (He.ga K "Ratio") "__init__") := He.mkr_ok (L.c.fact 60 rfl)
theorem Lw.sf_Ratio (L : Lw K mg) : PySem.W.selfFirst K (He.ga K "Ratio") = true := (L.c.fact 61 rfl)
theorem Lw.na_Ratio_bottom (L : Lw K mg) : NoAttr K (He.ga K "Ratio") "bottom" := He.noat_ok (L.c.fact 62 rfl)
theorem Lw.na_Ratio_top (L : Lw K mg) : NoAttr K (He.ga K "Ratio") "top" := He.noat_ok (L.c.fact 63 rfl)
theorem Lw.me_RatioD_addD (L : Lw K mg) : Meth K (He.ga K "Ratio") "__add__" (He.ma K (He.ga K "Ratio") "__add__") := He.meth_ok (L.c.fact 64 rfl)
theorem Lw.me_RatioD_mulD (L : Lw K mg) : Meth K (He.ga K "Ratio") "__mul__" (He.ma K (He.ga K "Ratio") "__mul__") := He.meth_ok (L.c.fact 65 rfl)
theorem Lw.me_Ratio_sign (L : Lw K mg) : Meth K (He.ga K "Ratio") "sign" (He.ma K (He.ga K "Ratio") "sign") := He.meth_ok (L.c.fact 66 rfl)
theorem Lw.cl_Poly (L : Lw K mg) : Cls K (He.ga K "Poly") := He.cls_ok (L.c.fact 67 rfl)
theorem Lw.mk_Poly (L : Lw K mg) : Mk K (He.ga K "Poly") (He.ma K (He.ga K "Poly") "__init__") := He.mkr_ok (L.c.fact 69 rfl)
theorem Lw.na_Poly_degree (L : Lw K mg) : NoAttr K (He.ga K "Poly") "degree" := He.noat_ok (L.c.fact 71 rfl)
theorem Lw.na_Poly_numbers (L : Lw K mg) : NoAttr K (He.ga K "Poly") "numbers" := He.noat_ok (L.c.fact 72 rfl)
theorem Lw.na_Poly_over (L : Lw K mg) : NoAttr K (He.ga K "Poly") "over" := He.noat_ok (L.c.fact 73 rfl)
theorem Lw.cl_SixClaim (L : Lw K mg) : Cls K (He.ga K "SixClaim") := He.cls_ok (L.c.fact 74 rfl)
theorem Lw.mk_SixClaim (L : Lw K mg) : Mk K (He.ga K "SixClaim") (He.ma K (He.ga K "SixClaim") "__init__") := He.mkr_ok (L.c.fact 76 rfl)
theorem Lw.na_SixClaim_letters (L : Lw K mg) : NoAttr K (He.ga K "SixClaim") "letters" := He.noat_ok (L.c.fact 78 rfl)
theorem Lw.na_SixClaim_numbers (L : Lw K mg) : NoAttr K (He.ga K "SixClaim") "numbers" := He.noat_ok (L.c.fact 79 rfl)
theorem Lw.me_SixClaim_quadratic (L : Lw K mg) : Meth K (He.ga K "SixClaim") "quadratic" (He.ma K (He.ga K "SixClaim") "quadratic") := He.meth_ok (L.c.fact 80 rfl)
theorem Lw.me_SixClaim_holds (L : Lw K mg) : Meth K (He.ga K "SixClaim") "holds" (He.ma K (He.ga K "SixClaim") "holds") := He.meth_ok (L.c.fact 81 rfl)
theorem Lw.ox_BadSize (L : Lw K mg) : OexC K (He.ga K "BadSize") ∧ PySem.W.findIn K (.ref (He.ga K "BadSize")) "__init__" = some (some (.ref (He.ma K (He.ga K "BadSize") "__init__"))) ∧ PySem.W.typeIn K (.ref (He.ma K (He.ga K "BadSize") "__init__")) = some (.type "function") := oex_ok (L.c.fact 82 rfl)
theorem Lw.na_BadSize_size (L : Lw K mg) : NoAttr K (He.ga K "BadSize") "size" := He.noat_ok (L.c.fact 83 rfl)
theorem Lw.ox_Negative (L : Lw K mg) : OexC K (He.ga K "Negative") ∧ PySem.W.findIn K (.ref (He.ga K "Negative")) "__init__" = some (some (.ref (He.ma K (He.ga K "Negative") "__init__"))) ∧ PySem.W.typeIn K (.ref (He.ma K (He.ga K "Negative") "__init__")) = some (.type "function") := oex_ok (L.c.fact 84 rfl)
theorem Lw.na_Negative_ratio (L : Lw K mg) : NoAttr K (He.ga K "Negative") "ratio" := He.noat_ok (L.c.fact 85 rfl)
theorem Lw.ox_OutOfBounds (L : Lw K mg) : OexC K (He.ga K "OutOfBounds") ∧ PySem.W.findIn K (.ref (He.ga K "OutOfBounds")) "__init__" = some (some (.ref (He.ma K (He.ga K "OutOfBounds") "__init__"))) ∧ PySem.W.typeIn K (.ref (He.ma K (He.ga K "OutOfBounds") "__init__")) = some (.type "function") := oex_ok (L.c.fact 86 rfl)
theorem Lw.na_OutOfBounds_value (L : Lw K mg) : NoAttr K (He.ga K "OutOfBounds") "value" := He.noat_ok (L.c.fact 87 rfl)
theorem Lw.e0_ZeroBottom (L : Lw K mg) : PySem.W.excIn K (He.ga K "ZeroBottom") He.veBase "ValueError.__new__" = true ∧ PySem.W.keepIn K (.ref (He.ga K "ZeroBottom")) = true ∧ PySem.W.subIn K (.ref (He.ga K "ZeroBottom")) (.type "BaseException") = some true ∧ PySem.W.typeIn K (.ref (He.ga K "ZeroBottom")) = some (.type "type") := He.exc_ok (L.c.fact 88 rfl)
theorem Lw.xi_ZeroBottom (L : Lw K mg) : PySem.W.excIn K (He.ga K "ZeroBottom") He.veBase "ValueError.__new__" = true := (L.e0_ZeroBottom).1
theorem Lw.kp_ZeroBottom (L : Lw K mg) : PySem.W.keepIn K (.ref (He.ga K "ZeroBottom")) = true := (L.e0_ZeroBottom).2.1
theorem Lw.xb_ZeroBottom (L : Lw K mg) : PySem.W.subIn K (.ref (He.ga K "ZeroBottom")) (.type "BaseException") = some true := (L.e0_ZeroBottom).2.2.1
theorem Lw.xt_ZeroBottom (L : Lw K mg) : PySem.W.typeIn K (.ref (He.ga K "ZeroBottom")) = some (.type "type") := (L.e0_ZeroBottom).2.2.2
theorem Lw.xm_BadSize_BadSize (L : Lw K mg) : PySem.W.exmOne K (.ref (He.ga K "BadSize")) (.ref (He.ga K "BadSize")) = some true := He.exm_ok (L.c.fact 89 rfl)
theorem Lw.xm_Negative_Negative (L : Lw K mg) : PySem.W.exmOne K (.ref (He.ga K "Negative")) (.ref (He.ga K "Negative")) = some true := He.exm_ok (L.c.fact 93 rfl)
theorem Lw.xm_OutOfBounds_OutOfBounds (L : Lw K mg) : PySem.W.exmOne K (.ref (He.ga K "OutOfBounds")) (.ref (He.ga K "OutOfBounds")) = some true := He.exm_ok (L.c.fact 97 rfl)
theorem Lw.ec_BadSize (L : Lw K mg) : ExcC K (He.ga K "BadSize") := excC_ok (L.c.fact 101 rfl)
theorem Lw.xf_BadSize (L : Lw K mg) : XfC K (He.ga K "BadSize") := (L.ec_BadSize).xf
theorem Lw.ec_Negative (L : Lw K mg) : ExcC K (He.ga K "Negative") := excC_ok (L.c.fact 102 rfl)
theorem Lw.xf_Negative (L : Lw K mg) : XfC K (He.ga K "Negative") := (L.ec_Negative).xf
theorem Lw.ec_OutOfBounds (L : Lw K mg) : ExcC K (He.ga K "OutOfBounds") := excC_ok (L.c.fact 103 rfl)
theorem Lw.xf_OutOfBounds (L : Lw K mg) : XfC K (He.ga K "OutOfBounds") := (L.ec_OutOfBounds).xf
theorem Lw.kt_Negative_BadSize (L : Lw K mg) : PySem.W.kitOne K (.ref (He.ga K "Negative")) (.ref (He.ga K "BadSize")) = some false := of_decide_eq_true (L.c.fact 105 rfl)
theorem Lw.kt_Negative_OutOfBounds (L : Lw K mg) : PySem.W.kitOne K (.ref (He.ga K "Negative")) (.ref (He.ga K "OutOfBounds")) = some false := of_decide_eq_true (L.c.fact 106 rfl)
theorem Lw.kt_Negative_NoughtError (L : Lw K mg) : PySem.W.kitOne K (.ref (He.ga K "Negative")) (.ref (He.ga K "NoughtError")) = some true := of_decide_eq_true (L.c.fact 107 rfl)
theorem Lw.kt_BadSize_Negative (L : Lw K mg) : PySem.W.kitOne K (.ref (He.ga K "BadSize")) (.ref (He.ga K "Negative")) = some false := of_decide_eq_true (L.c.fact 108 rfl)
theorem Lw.kt_BadSize_OutOfBounds (L : Lw K mg) : PySem.W.kitOne K (.ref (He.ga K "BadSize")) (.ref (He.ga K "OutOfBounds")) = some false := of_decide_eq_true (L.c.fact 109 rfl)
theorem Lw.kt_BadSize_NoughtError (L : Lw K mg) : PySem.W.kitOne K (.ref (He.ga K "BadSize")) (.ref (He.ga K "NoughtError")) = some true := of_decide_eq_true (L.c.fact 110 rfl)
theorem Lw.kt_OutOfBounds_Negative (L : Lw K mg) : PySem.W.kitOne K (.ref (He.ga K "OutOfBounds")) (.ref (He.ga K "Negative")) = some false := of_decide_eq_true (L.c.fact 111 rfl)
theorem Lw.kt_OutOfBounds_BadSize (L : Lw K mg) : PySem.W.kitOne K (.ref (He.ga K "OutOfBounds")) (.ref (He.ga K "BadSize")) = some false := of_decide_eq_true (L.c.fact 112 rfl)
theorem Lw.kt_OutOfBounds_NoughtError (L : Lw K mg) : PySem.W.kitOne K (.ref (He.ga K "OutOfBounds")) (.ref (He.ga K "NoughtError")) = some true := of_decide_eq_true (L.c.fact 113 rfl)
theorem Lw.kt_Ratio_Ratio (L : Lw K mg) : PySem.W.kitOne K (.ref (He.ga K "Ratio")) (.ref (He.ga K "Ratio")) = some true := of_decide_eq_true (L.c.fact 114 rfl)
theorem Lw.d_law_at (L : Lw K mg) : ∃ fd, FunD K "_law_at" "_law_at" (defArgs s_law_at) (defBody s_law_at) (defScope s_law_at) (df_law_at.dvs K) (df_law_at.kws K) (He.fAd K ("_law_at", none)) fd := L.c.def_ 0 (d := df_law_at) rfl
theorem Lw.d_OutOfBoundsD_initD (L : Lw K mg) : ∃ fd, FunD K "__init__" "OutOfBounds.__init__" (defArgs s_OutOfBoundsD_initD) (defBody s_OutOfBoundsD_initD) (defScope s_OutOfBoundsD_initD) (df_OutOfBoundsD_initD.dvs K) (df_OutOfBoundsD_initD.kws K) (He.fAd K ("OutOfBounds", some "__init__")) fd := L.c.def_ 1 (d := df_OutOfBoundsD_initD) rfl
theorem Lw.d_check_number (L : Lw K mg) : ∃ fd, FunD K "check_number" "check_number" (defArgs s_check_number) (defBody s_check_number) (defScope s_check_number) (df_check_number.dvs K) (df_check_number.kws K) (He.fAd K ("check_number", none)) fd := L.c.def_ 2 (d := df_check_number) rfl
theorem Lw.d_BadSizeD_initD (L : Lw K mg) : ∃ fd, FunD K "__init__" "BadSize.__init__" (defArgs s_BadSizeD_initD) (defBody s_BadSizeD_initD) (defScope s_BadSizeD_initD) (df_BadSizeD_initD.dvs K) (df_BadSizeD_initD.kws K) (He.fAd K ("BadSize", some "__init__")) fd := L.c.def_ 3 (d := df_BadSizeD_initD) rfl
theorem Lw.d_check_size (L : Lw K mg) : ∃ fd, FunD K "check_size" "check_size" (defArgs s_check_size) (defBody s_check_size) (defScope s_check_size) (df_check_size.dvs K) (df_check_size.kws K) (He.fAd K ("check_size", none)) fd := L.c.def_ 4 (d := df_check_size) rfl
theorem Lw.d_SixClaimD_initD (L : Lw K mg) : ∃ fd, FunD K "__init__" "SixClaim.__init__" (defArgs s_SixClaimD_initD) (defBody s_SixClaimD_initD) (defScope s_SixClaimD_initD) (df_SixClaimD_initD.dvs K) (df_SixClaimD_initD.kws K) (He.fAd K ("SixClaim", some "__init__")) fd := L.c.def_ 5 (d := df_SixClaimD_initD) rfl
theorem Lw.d_lowest_terms (L : Lw K mg) : ∃ fd, FunD K "lowest_terms" "lowest_terms" (defArgs s_lowest_terms) (defBody s_lowest_terms) (defScope s_lowest_terms) (df_lowest_terms.dvs K) (df_lowest_terms.kws K) (He.fAd K ("lowest_terms", none)) fd := L.c.def_ 6 (d := df_lowest_terms) rfl
theorem Lw.d_PolyD_initD (L : Lw K mg) : ∃ fd, FunD K "__init__" "Poly.__init__" (defArgs s_PolyD_initD) (defBody s_PolyD_initD) (defScope s_PolyD_initD) (df_PolyD_initD.dvs K) (df_PolyD_initD.kws K) (He.fAd K ("Poly", some "__init__")) fd := L.c.def_ 7 (d := df_PolyD_initD) rfl
theorem Lw.d_quadratic_of (L : Lw K mg) : ∃ fd, FunD K "quadratic_of" "quadratic_of" (defArgs s_quadratic_of) (defBody s_quadratic_of) (defScope s_quadratic_of) (df_quadratic_of.dvs K) (df_quadratic_of.kws K) (He.fAd K ("quadratic_of", none)) fd := L.c.def_ 8 (d := df_quadratic_of) rfl
theorem Lw.d_SixClaim_quadratic (L : Lw K mg) : ∃ fd, FunD K "quadratic" "SixClaim.quadratic" (defArgs s_SixClaim_quadratic) (defBody s_SixClaim_quadratic) (defScope s_SixClaim_quadratic) (df_SixClaim_quadratic.dvs K) (df_SixClaim_quadratic.kws K) (He.fAd K ("SixClaim", some "quadratic")) fd := L.c.def_ 9 (d := df_SixClaim_quadratic) rfl
theorem Lw.d_whole_three (L : Lw K mg) : ∃ fd, FunD K "whole_three" "whole_three" (defArgs s_whole_three) (defBody s_whole_three) (defScope s_whole_three) (df_whole_three.dvs K) (df_whole_three.kws K) (He.fAd K ("whole_three", none)) fd := L.c.def_ 10 (d := df_whole_three) rfl
theorem Lw.d_first_below (L : Lw K mg) : ∃ fd, FunD K "first_below" "first_below" (defArgs s_first_below) (defBody s_first_below) (defScope s_first_below) (df_first_below.dvs K) (df_first_below.kws K) (He.fAd K ("first_below", none)) fd := L.c.def_ 11 (d := df_first_below) rfl
theorem Lw.d_SixClaim_holds (L : Lw K mg) : ∃ fd, FunD K "holds" "SixClaim.holds" (defArgs s_SixClaim_holds) (defBody s_SixClaim_holds) (defScope s_SixClaim_holds) (df_SixClaim_holds.dvs K) (df_SixClaim_holds.kws K) (He.fAd K ("SixClaim", some "holds")) fd := L.c.def_ 12 (d := df_SixClaim_holds) rfl
theorem Lw.d_law_flag (L : Lw K mg) : ∃ fd, FunD K "_law_flag" "_law_flag" (defArgs s_law_flag) (defBody s_law_flag) (defScope s_law_flag) (df_law_flag.dvs K) (df_law_flag.kws K) (He.fAd K ("_law_flag", none)) fd := L.c.def_ 13 (d := df_law_flag) rfl
theorem Lw.d_RatioD_initD (L : Lw K mg) : ∃ fd, FunD K "__init__" "Ratio.__init__" (defArgs s_RatioD_initD) (defBody s_RatioD_initD) (defScope s_RatioD_initD) (df_RatioD_initD.dvs K) (df_RatioD_initD.kws K) (He.fAd K ("Ratio", some "__init__")) fd := L.c.def_ 14 (d := df_RatioD_initD) rfl
theorem Lw.d_law_shares (L : Lw K mg) : ∃ fd, FunD K "_law_shares" "_law_shares" (defArgs s_law_shares) (defBody s_law_shares) (defScope s_law_shares) (df_law_shares.dvs K) (df_law_shares.kws K) (He.fAd K ("_law_shares", none)) fd := L.c.def_ 15 (d := df_law_shares) rfl
theorem Lw.d_law_holds (L : Lw K mg) : ∃ fd, FunD K "_law_holds" "_law_holds" (defArgs s_law_holds) (defBody s_law_holds) (defScope s_law_holds) (df_law_holds.dvs K) (df_law_holds.kws K) (He.fAd K ("_law_holds", none)) fd := L.c.def_ 16 (d := df_law_holds) rfl
theorem Lw.d_law_claims (L : Lw K mg) : ∃ fd, FunD K "_law_claims" "_law_claims" (defArgs s_law_claims) (defBody s_law_claims) (defScope s_law_claims) (df_law_claims.dvs K) (df_law_claims.kws K) (He.fAd K ("_law_claims", none)) fd := L.c.def_ 17 (d := df_law_claims) rfl
theorem Lw.d_law_cell (L : Lw K mg) : ∃ fd, FunD K "_law_cell" "_law_cell" (defArgs s_law_cell) (defBody s_law_cell) (defScope s_law_cell) (df_law_cell.dvs K) (df_law_cell.kws K) (He.fAd K ("_law_cell", none)) fd := L.c.def_ 18 (d := df_law_cell) rfl
theorem Lw.d_law_draw (L : Lw K mg) : ∃ fd, FunD K "_law_draw" "_law_draw" (defArgs s_law_draw) (defBody s_law_draw) (defScope s_law_draw) (df_law_draw.dvs K) (df_law_draw.kws K) (He.fAd K ("_law_draw", none)) fd := L.c.def_ 19 (d := df_law_draw) rfl
theorem Lw.d_law_many (L : Lw K mg) : ∃ fd, FunD K "_law_many" "_law_many" (defArgs s_law_many) (defBody s_law_many) (defScope s_law_many) (df_law_many.dvs K) (df_law_many.kws K) (He.fAd K ("_law_many", none)) fd := L.c.def_ 20 (d := df_law_many) rfl
theorem Lw.d_law_whole (L : Lw K mg) : ∃ fd, FunD K "_law_whole" "_law_whole" (defArgs s_law_whole) (defBody s_law_whole) (defScope s_law_whole) (df_law_whole.dvs K) (df_law_whole.kws K) (He.fAd K ("_law_whole", none)) fd := L.c.def_ 21 (d := df_law_whole) rfl
theorem Lw.d_RatioD_addD (L : Lw K mg) : ∃ fd, FunD K "__add__" "Ratio.__add__" (defArgs s_RatioD_addD) (defBody s_RatioD_addD) (defScope s_RatioD_addD) (df_RatioD_addD.dvs K) (df_RatioD_addD.kws K) (He.fAd K ("Ratio", some "__add__")) fd := L.c.def_ 22 (d := df_RatioD_addD) rfl
theorem Lw.d_RatioD_mulD (L : Lw K mg) : ∃ fd, FunD K "__mul__" "Ratio.__mul__" (defArgs s_RatioD_mulD) (defBody s_RatioD_mulD) (defScope s_RatioD_mulD) (df_RatioD_mulD.dvs K) (df_RatioD_mulD.kws K) (He.fAd K ("Ratio", some "__mul__")) fd := L.c.def_ 23 (d := df_RatioD_mulD) rfl
theorem Lw.d_NegativeD_initD (L : Lw K mg) : ∃ fd, FunD K "__init__" "Negative.__init__" (defArgs s_NegativeD_initD) (defBody s_NegativeD_initD) (defScope s_NegativeD_initD) (df_NegativeD_initD.dvs K) (df_NegativeD_initD.kws K) (He.fAd K ("Negative", some "__init__")) fd := L.c.def_ 24 (d := df_NegativeD_initD) rfl
theorem Lw.d_Ratio_sign (L : Lw K mg) : ∃ fd, FunD K "sign" "Ratio.sign" (defArgs s_Ratio_sign) (defBody s_Ratio_sign) (defScope s_Ratio_sign) (df_Ratio_sign.dvs K) (df_Ratio_sign.kws K) (He.fAd K ("Ratio", some "sign")) fd := L.c.def_ 25 (d := df_Ratio_sign) rfl
theorem Lw.d_check_shares (L : Lw K mg) : ∃ fd, FunD K "check_shares" "check_shares" (defArgs s_check_shares) (defBody s_check_shares) (defScope s_check_shares) (df_check_shares.dvs K) (df_check_shares.kws K) (He.fAd K ("check_shares", none)) fd := L.c.def_ 26 (d := df_check_shares) rfl
theorem Lw.d_exchanged (L : Lw K mg) : ∃ fd, FunD K "exchanged" "exchanged" (defArgs s_exchanged) (defBody s_exchanged) (defScope s_exchanged) (df_exchanged.dvs K) (df_exchanged.kws K) (He.fAd K ("exchanged", none)) fd := L.c.def_ 27 (d := df_exchanged) rfl
theorem Lw.d_law_place (L : Lw K mg) : ∃ fd, FunD K "_law_place" "_law_place" (defArgs s_law_place) (defBody s_law_place) (defScope s_law_place) (df_law_place.dvs K) (df_law_place.kws K) (He.fAd K ("_law_place", none)) fd := L.c.def_ 28 (d := df_law_place) rfl
theorem Lw.d_law_places (L : Lw K mg) : ∃ fd, FunD K "_law_places" "_law_places" (defArgs s_law_places) (defBody s_law_places) (defScope s_law_places) (df_law_places.dvs K) (df_law_places.kws K) (He.fAd K ("_law_places", none)) fd := L.c.def_ 29 (d := df_law_places) rfl
theorem Lw.d_law_fraction (L : Lw K mg) : ∃ fd, FunD K "_law_fraction" "_law_fraction" (defArgs s_law_fraction) (defBody s_law_fraction) (defScope s_law_fraction) (df_law_fraction.dvs K) (df_law_fraction.kws K) (He.fAd K ("_law_fraction", none)) fd := L.c.def_ 30 (d := df_law_fraction) rfl
theorem Lw.d_law_is (L : Lw K mg) : ∃ fd, FunD K "_law_is" "_law_is" (defArgs s_law_is) (defBody s_law_is) (defScope s_law_is) (df_law_is.dvs K) (df_law_is.kws K) (He.fAd K ("_law_is", none)) fd := L.c.def_ 31 (d := df_law_is) rfl
theorem Lw.d_ratio_sum (L : Lw K mg) : ∃ fd, FunD K "ratio_sum" "ratio_sum" (defArgs s_ratio_sum) (defBody s_ratio_sum) (defScope s_ratio_sum) (df_ratio_sum.dvs K) (df_ratio_sum.kws K) (He.fAd K ("ratio_sum", none)) fd := L.c.def_ 32 (d := df_ratio_sum) rfl
theorem Lw.d_six_value (L : Lw K mg) : ∃ fd, FunD K "six_value" "six_value" (defArgs s_six_value) (defBody s_six_value) (defScope s_six_value) (df_six_value.dvs K) (df_six_value.kws K) (He.fAd K ("six_value", none)) fd := L.c.def_ 33 (d := df_six_value) rfl
theorem Lw.d_six_of_shares (L : Lw K mg) : ∃ fd, FunD K "six_of_shares" "six_of_shares" (defArgs s_six_of_shares) (defBody s_six_of_shares) (defScope s_six_of_shares) (df_six_of_shares.dvs K) (df_six_of_shares.kws K) (He.fAd K ("six_of_shares", none)) fd := L.c.def_ 34 (d := df_six_of_shares) rfl
theorem Lw.d_law_negative (L : Lw K mg) : ∃ fd, FunD K "_law_negative" "_law_negative" (defArgs s_law_negative) (defBody s_law_negative) (defScope s_law_negative) (df_law_negative.dvs K) (df_law_negative.kws K) (He.fAd K ("_law_negative", none)) fd := L.c.def_ 35 (d := df_law_negative) rfl
theorem Lw.d_law_size (L : Lw K mg) : ∃ fd, FunD K "_law_size" "_law_size" (defArgs s_law_size) (defBody s_law_size) (defScope s_law_size) (df_law_size.dvs K) (df_law_size.kws K) (He.fAd K ("_law_size", none)) fd := L.c.def_ 36 (d := df_law_size) rfl
theorem Lw.d_law_refusals (L : Lw K mg) : ∃ fd, FunD K "_law_refusals" "_law_refusals" (defArgs s_law_refusals) (defBody s_law_refusals) (defScope s_law_refusals) (df_law_refusals.dvs K) (df_law_refusals.kws K) (He.fAd K ("_law_refusals", none)) fd := L.c.def_ 37 (d := df_law_refusals) rfl
theorem Lw.d_law_six (L : Lw K mg) : ∃ fd, FunD K "_law_six" "_law_six" (defArgs s_law_six) (defBody s_law_six) (defScope s_law_six) (df_law_six.dvs K) (df_law_six.kws K) (He.fAd K ("_law_six", none)) fd := L.c.def_ 38 (d := df_law_six) rfl
theorem Lw.d_law_halves (L : Lw K mg) : ∃ fd, FunD K "_law_halves" "_law_halves" (defArgs s_law_halves) (defBody s_law_halves) (defScope s_law_halves) (df_law_halves.dvs K) (df_law_halves.kws K) (He.fAd K ("_law_halves", none)) fd := L.c.def_ 39 (d := df_law_halves) rfl
theorem Lw.d_law_list (L : Lw K mg) : ∃ fd, FunD K "_law_list" "_law_list" (defArgs s_law_list) (defBody s_law_list) (defScope s_law_list) (df_law_list.dvs K) (df_law_list.kws K) (He.fAd K ("_law_list", none)) fd := L.c.def_ 40 (d := df_law_list) rfl
theorem Lw.d_law_moved (L : Lw K mg) : ∃ fd, FunD K "_law_moved" "_law_moved" (defArgs s_law_moved) (defBody s_law_moved) (defScope s_law_moved) (df_law_moved.dvs K) (df_law_moved.kws K) (He.fAd K ("_law_moved", none)) fd := L.c.def_ 41 (d := df_law_moved) rfl
theorem Lw.d_law_both (L : Lw K mg) : ∃ fd, FunD K "_law_both" "_law_both" (defArgs s_law_both) (defBody s_law_both) (defScope s_law_both) (df_law_both.dvs K) (df_law_both.kws K) (He.fAd K ("_law_both", none)) fd := L.c.def_ 42 (d := df_law_both) rfl
theorem Lw.d_law_value (L : Lw K mg) : ∃ fd, FunD K "_law_value" "_law_value" (defArgs s_law_value) (defBody s_law_value) (defScope s_law_value) (df_law_value.dvs K) (df_law_value.kws K) (He.fAd K ("_law_value", none)) fd := L.c.def_ 43 (d := df_law_value) rfl
theorem Lw.d_law_step (L : Lw K mg) : ∃ fd, FunD K "_law_step" "_law_step" (defArgs s_law_step) (defBody s_law_step) (defScope s_law_step) (df_law_step.dvs K) (df_law_step.kws K) (He.fAd K ("_law_step", none)) fd := L.c.def_ 44 (d := df_law_step) rfl
theorem Lw.d_law (L : Lw K mg) : ∃ fd, FunD K "law" "law" (defArgs s_law) (defBody s_law) (defScope s_law) (df_law.dvs K) (df_law.kws K) (He.fAd K ("law", none)) fd := L.c.def_ 45 (d := df_law) rfl
end
end T
set_option maxHeartbeats 0
namespace T
open PySem PySem.W PySem.Calls PySem.Spec PyProof.Rows L2 Z
abbrev R : PySem.W.OpenRow := PySem.W.OpenLaw.row PySem.Challenge.rw_belownought_k63_exchanged_shares
abbrev hk : PySem.W.Hook := hookZ3 6 fb fn
def ob (st : PySem.W.SharedT) : SeenZ := seenG3 6 fb fn (HandSHeadRun.getT st)
theorem ob_eq (st : PySem.W.SharedT) : ob st = hk.obs st.abs := seenG3_eq (HandSHeadRun.getT_eq st)
def loose : List Str := (["_wall", "__name__", "NoughtError", "ZeroBottom", "BadText", "OutOfBounds", "BadSize", "Negative", "check_number", "check_size", "Ratio", "ratio_sum", "read_whole", "read_fraction", "check_shares", "six_value", "six_of_shares", "exchanged", "joined_terms", "split_terms", "split_body", "written_power", "read_power", "written_poly", "read_poly", "Poly", "lowest_terms", "poly_sum", "whole_value", "Claim"] : List Str) ++ (["SixClaim", "quadratic_of", "whole_three", "first_below", "_law_cell", "_law_draw", "_law_many", "_law_whole", "_law_flag", "_law_fraction", "_law_is", "_law_list", "_law_shares", "_law_six", "_law_value", "_law_halves", "_law_moved", "_law_both", "_law_step", "_law_negative", "_law_size", "_law_place", "_law_places", "_law_refusals", "_law_at", "_law_holds", "_law_claims"] : List Str)
theorem runA (w : World) : (HandSHeadRun.wholeF (fun p => HandSHeadRun.stepQ (HandSHeadRun.denQ HandSHeadRun.tabQ) p w) HandSHeadRun.fenceQ 12000 R.prog).map (fun x => HandSHeadRun.looksF R.prog x.1.heap x.2.abs) = some true := by
  kernel_rfl
theorem runB (w : World) : (HandSHeadRun.wholeF (fun p => HandSHeadRun.stepQ (HandSHeadRun.denQ HandSHeadRun.tabQ) p w) HandSHeadRun.fenceQ 12000 R.prog).map (fun x => HandSHeadRun.seenQ (PySem.W.view R.prog [0, 65]) loose (importedModules R.prog.main.body) (fun s => PySem.W.xlAt (PySem.W.view R.prog [0, 65]) [] s && PySem.W.recOk R.toRowW.records s) x.2.abs) = some (PySem.W.openGood (PySem.W.view R.prog [0, 65]) loose) := by
  kernel_rfl
def fb0 : List Chk := [cGlo "BadSize", cGlo "Negative", cGlo "NoughtError", cGlo "OutOfBounds", cGlo "Poly", cGlo "Ratio", cGlo "SixClaim", cGlo "ZeroBottom", cGlo "_law_at", cGlo "_law_both", cGlo "_law_cell", cGlo "_law_claims", cGlo "_law_draw", cGlo "_law_flag", cGlo "_law_fraction", cGlo "_law_halves", cGlo "_law_holds", cGlo "_law_is", cGlo "_law_list", cGlo "_law_many", cGlo "_law_moved", cGlo "_law_negative", cGlo "_law_place", cGlo "_law_places", cGlo "_law_refusals", cGlo "_law_shares", cGlo "_law_six", cGlo "_law_size", cGlo "_law_step", cGlo "_law_value", cGlo "_law_whole", cGlo "check_number", cGlo "check_shares", cGlo "check_size", cGlo "exchanged", cGlo "first_below", cGlo "law", cGlo "lowest_terms", cGlo "quadratic_of", cGlo "ratio_sum", cGlo "six_of_shares", cGlo "six_value", cGlo "whole_three", cFree "abs", cFree "all", cFree "bool", cVal "gcd" "math.gcd", cFree "int", cFree "isinstance", cVal "lcm" "math.lcm", cFree "len", cFree "list", cFree "max", cFree "min", cFree "range", cFree "sum", cFree "tuple"]
def fn0 : List He5.DefA := [df_law_at, df_OutOfBoundsD_initD, df_check_number, df_BadSizeD_initD, df_check_size, df_SixClaimD_initD, df_lowest_terms, df_PolyD_initD, df_quadratic_of, df_SixClaim_quadratic, df_whole_three, df_first_below, df_SixClaim_holds, df_law_flag, df_RatioD_initD, df_law_shares, df_law_holds, df_law_claims, df_law_cell, df_law_draw, df_law_many, df_law_whole, df_RatioD_addD]
theorem runC0 (w : World) : (HandSHeadRun.wholeF (fun p => HandSHeadRun.stepQ (HandSHeadRun.denQ HandSHeadRun.tabQ) p w) HandSHeadRun.fenceQ 12000 R.prog).map (fun x => seenG3 6 fb0 fn0 (HandSHeadRun.getT x.2)) = some (dueK2 fn0) := by
  kernel_rfl
def fb1 : List Chk := [cFree "zip", cCls "Ratio", cIns "Ratio", cMk "Ratio", cSelf "Ratio", cNo "Ratio" "bottom", cNo "Ratio" "top", cMeth "Ratio" "__add__", cMeth "Ratio" "__mul__", cMeth "Ratio" "sign", cCls "Poly", cIns "Poly", cMk "Poly", cSelf "Poly", cNo "Poly" "degree", cNo "Poly" "numbers", cNo "Poly" "over", cCls "SixClaim", cIns "SixClaim", cMk "SixClaim", cSelf "SixClaim", cNo "SixClaim" "letters", cNo "SixClaim" "numbers", cMeth "SixClaim" "quadratic", cMeth "SixClaim" "holds", cOex "BadSize", cNo "BadSize" "size", cOex "Negative", cNo "Negative" "ratio", cOex "OutOfBounds", cNo "OutOfBounds" "value", cExc0 "ZeroBottom", cExm "BadSize" "BadSize" true, cExm "BadSize" "Negative" false, cExm "BadSize" "OutOfBounds" false, cExm "Negative" "BadSize" false, cExm "Negative" "Negative" true, cExm "Negative" "OutOfBounds" false, cExm "OutOfBounds" "BadSize" false, cExm "OutOfBounds" "Negative" false, cExm "OutOfBounds" "OutOfBounds" true, cExm "ZeroBottom" "BadSize" false, cExm "ZeroBottom" "Negative" false, cExm "ZeroBottom" "OutOfBounds" false, cExcC "BadSize", cExcC "Negative", cExcC "OutOfBounds", cExcC "ZeroBottom", cKit "Negative" "BadSize" false, cKit "Negative" "OutOfBounds" false, cKit "Negative" "NoughtError" true, cKit "BadSize" "Negative" false, cKit "BadSize" "OutOfBounds" false, cKit "BadSize" "NoughtError" true, cKit "OutOfBounds" "Negative" false, cKit "OutOfBounds" "BadSize" false, cKit "OutOfBounds" "NoughtError" true, cKit "Ratio" "Ratio" true]
def fn1 : List He5.DefA := [df_RatioD_mulD, df_NegativeD_initD, df_Ratio_sign, df_check_shares, df_exchanged, df_law_place, df_law_places, df_law_fraction, df_law_is, df_ratio_sum, df_six_value, df_six_of_shares, df_law_negative, df_law_size, df_law_refusals, df_law_six, df_law_halves, df_law_list, df_law_moved, df_law_both, df_law_value, df_law_step, df_law]
theorem runC1 (w : World) : (HandSHeadRun.wholeF (fun p => HandSHeadRun.stepQ (HandSHeadRun.denQ HandSHeadRun.tabQ) p w) HandSHeadRun.fenceQ 12000 R.prog).map (fun x => seenG3 6 fb1 fn1 (HandSHeadRun.getT x.2)) = some (dueK2 fn1) := by
  kernel_rfl
theorem runC (w : World) : (HandSHeadRun.wholeF (fun p => HandSHeadRun.stepQ (HandSHeadRun.denQ HandSHeadRun.tabQ) p w) HandSHeadRun.fenceQ 12000 R.prog).map (fun x => ob x.2) = some (dueK2 fn) := by
  have e1 : fb = fb0 ++ (fb1) := rfl
  have e2 : fn = fn0 ++ (fn1) := rfl
  unfold ob
  rw [e1, e2]
  exact (seen_both3 (runC0 w) (runC1 w))
theorem run (w : World) : HandSHeadRun.RunEqI R (PySem.W.view R.prog [0, 65]) hk ob 12000 loose w := map_three (runA w) (runB w) (runC w)
end T
set_option maxHeartbeats 4000000
namespace T
open PySem PySem.Spec PyProof.Rows L2 Z
/-! the readings' steps, as one word: walk_at "z" (one step), "zz" (as far as it goes), "up" (a fact carried here) -/
local macro_rules | `(tactic| walk_at "up") => `(tactic| first
  | assumption
  | (refine' IsR.mono (by assumption) ?zup; case zup => walk_at "up")
  | (refine' IsE.mono (by assumption) ?zup; case zup => walk_at "up")
  | (refine' Same.at (by assumption) ?zup; case zup => walk_at "up")
  | (refine' SqL.of ?zup; case zup => walk_at "up")
  | (refine' L2.Same.seq (by assumption) ?zup; case zup => walk_at "up"))
local macro_rules | `(tactic| walk_at "z") => `(tactic| first
  | ((with_reducible refine' z_var ?zvh ?_); (case zvh => exact rfl))
  | with_reducible refine z_c ?_
  | with_reducible refine z_cons ?_
  | with_reducible refine z_nil ?_
  | with_reducible refine z_op ?_
  | with_reducible refine z_nx ?_
  | with_reducible refine z_seq ?_
  | with_reducible refine z_asg ?_
  | with_reducible refine z_asgG ?_
  | with_reducible refine z_call ?_
  | with_reducible refine z_sq0 ?_
  | with_reducible refine z_sq1 ?_
  | with_reducible refine z_ifS ?_
  | with_reducible refine z_test ?_
  | with_reducible refine z_tb ?_
  | with_reducible refine z_bl ?_
  | with_reducible refine z_blI ?_
  | with_reducible refine z_ret ?_
  | with_reducible refine z_rt ?_
  | with_reducible refine z_T ?_
  | with_reducible refine z_F ?_
  | with_reducible refine z_add ?_
  | with_reducible refine z_sub ?_
  | with_reducible refine z_neg ?_
  | with_reducible refine z_un ?_
  | with_reducible refine z_eqI ?_
  | with_reducible refine z_neI ?_
  | with_reducible refine z_lt ?_
  | with_reducible refine z_le ?_
  | with_reducible refine z_gt ?_
  | with_reducible refine z_ge ?_
  | with_reducible refine z_not ?_
  | with_reducible refine z_and ?_
  | with_reducible refine z_or ?_
  | with_reducible refine z_andV ?_
  | with_reducible refine z_orV ?_
  | with_reducible refine z_notV ?_
  | with_reducible refine z_if ?_
  | with_reducible refine z_cb ?_
  | with_reducible refine z_int1 ?_
  | with_reducible refine z_intb ?_
  | with_reducible refine z_abs ?_
  | with_reducible refine z_gcd ?_
  | with_reducible refine z_isi_ii ?_
  | with_reducible refine z_isi_ib ?_
  | with_reducible refine z_next ?_
  | with_reducible refine z_drop ?_
  | with_reducible refine z_par ?_
  | with_reducible refine z_par2 ?_
  | with_reducible refine z_tupN ?_
  | with_reducible refine z_lstN ?_
  | ((with_reducible refine' z_nt ?zl1 ?_); (case zl1 => exact Nat.le_of_ble_eq_true rfl); intro p H' hp hs he)
  | ((with_reducible refine' z_gtup ?zl1 ?zl2 ?_); (case zl1 => walk_at "up"); (case zl2 => exact rfl))
  | with_reducible refine z_bk ?_
  | with_reducible refine z_ct ?_
  | with_reducible refine z_break ?_
  | with_reducible refine z_cont ?_
  | with_reducible refine z_retN ?_
  | with_reducible refine z_nn ?_
  | with_reducible refine z_mk ?_
  | with_reducible refine z_gn ?_
  | with_reducible refine z_gcons ?_
  | with_reducible refine z_gnil ?_
  | with_reducible refine z_mt ?_
  | with_reducible refine z_mko ?_
  | with_reducible refine z_for2 ?_
  | with_reducible refine z_ownI ?_
  | ((with_reducible refine' z_lenL ?zl1 ?_); (case zl1 => walk_at "up"))
  | ((with_reducible refine' z_ixT ?zl1 ?zl2 ?_); (case zl1 => walk_at "up"); (case zl2 => exact rfl))
  | ((with_reducible refine' z_mulL ?zl1 ?zl2 ?_); (case zl1 => omega); (case zl2 => omega))
  | ((with_reducible refine' z_mulR ?zl1 ?zl2 ?_); (case zl1 => omega); (case zl2 => omega))
  | ((with_reducible refine' z_divS ?zl1 ?zl2 ?_); (case zl1 => omega); (case zl2 => omega))
  | ((with_reducible refine' z_mulW ?zl1 ?zl2 ?zl3 ?zl4 ?_); (case zl1 => omega); (case zl2 => omega); (case zl3 => omega); (case zl4 => omega))
  | ((with_reducible refine' z_divW ?zl1 ?zl2 ?_); (case zl1 => omega); (case zl2 => omega)))
local macro_rules | `(tactic| walk_at "zz") => `(tactic| repeat (walk_at "z"))
local macro_rules | `(tactic| walk_at "z") => `(tactic| ((with_reducible refine' z_fldt ?zc1 ?zc2 ?zl1 ?zl2 ?_); (case zc1 => exact Lw.cl_Ratio (by assumption)); (case zc2 => exact Lw.na_Ratio_top (by assumption)); (case zl1 => exact rfl); (case zl2 => walk_at "up")))
local macro_rules | `(tactic| walk_at "z") => `(tactic| ((with_reducible refine' z_fldb ?zc1 ?zc2 ?zl1 ?zl2 ?_); (case zc1 => exact Lw.cl_Ratio (by assumption)); (case zc2 => exact Lw.na_Ratio_bottom (by assumption)); (case zl1 => exact rfl); (case zl2 => walk_at "up")))
section
variable {P : Program} {w : World} {K : Frag} {mg : Str → Option Value} {base : Heap}
theorem ok_RatioD_initD (L : Lw K mg) {fd : FuncData} (F : FunD K "__init__" "Ratio.__init__" (defArgs s_RatioD_initD) (defBody s_RatioD_initD) (defScope s_RatioD_initD) (df_RatioD_initD.dvs K) (df_RatioD_initD.kws K) (He.fAd K ("Ratio", some "__init__")) fd) : FnOk P w K mg base (L2N.CX P w) 1 (He.fAd K ("Ratio", some "__init__")) fd (["self", "top", "bottom"] : List Str) (sp3 (fs_rinit K)) := by
  refine FunD.ok F sc_RatioD_initD len3 (fun cdv A outer s H vs Q E hr h => ?_)
  obtain ⟨a, b, c, rfl, h⟩ := h
  refine ⟨_, (pss_cons (ps_if (pt_cmpR op_eq (pv 2) pe_int (nomark _)) (pss_one (L2N.ps_raise rfl (L2N.takes_of rfl rfl rfl rfl) (pmk_x0 PySem.F.excBase_ValueError L.xi_ZeroBottom L.g_ZeroBottom L.kp_ZeroBottom (raises_own L.xb_ZeroBottom L.xt_ZeroBottom)))) pss_nil)
    (pss_cons (ps_set (i := 3) sc_RatioD_initD.nd rfl (by first | exact Or.inl rfl | exact Or.inr rfl) (pe_callBfun cr_gcd rfl L.v_gcd (pa_cons (pv 1) (pa_cons (pv 2) pa_nil))))
    (pss_cons (ps_if (pt_cmpR o_lt (pv 2) pe_int (nomark _)) (pss_one (ps_set (i := 3) sc_RatioD_initD.nd rfl (by first | exact Or.inl rfl | exact Or.inr rfl) (pe_un o_neg (pv 3)))) pss_nil)
    (pss_cons (ps_fld (pv 0) (pe_op o_div (pv 1) (pv 3)) rfl)
    (pss_one (ps_fld (pv 0) (pe_op o_div (pv 2) (pv 3)) rfl)))))), ?_⟩
  obtain ⟨x, dx, H0, n, d, rfl, rfl, rfl, rfl, hx, hdx, ne, hb, k, kz⟩ := h
  walk_at "zz"
  have sm : Same H0 (upd (upd H0 dx (.own x)) x (.ins (He.ga K "Ratio") dx [])) := fun y o hy => by
    rw [upd_ne (ne_of_none hy hx), upd_ne (ne_of_none hy hdx)]
    exact hy
  refine z_d2 (fun c => kz c _ sm) (fun c => ?_)
  have hc := rc_bits (n := n) c hb
  have hc0 := rc_ne (n := n) c
  walk_at "zz"
  refine z_d2 (fun c2 => ?_) (fun c2 => ?_)
  · walk_at "zz"
    have e : rc n d = -((Int.gcd n d : Nat) : Int) := by unfold rc; rw [if_pos c2]
    rw [e] at hc hc0
    refine run_rinit (a := .int (rt n d)) (b := .int (rb n d)) L.cl_Ratio L.na_Ratio_top L.na_Ratio_bottom hx hdx ne rfl (fun H1 Q1 q1 => ?_) (fun H1 Q1 q1 => ?_) (fun H' e1 e2 => k c H' e1 ⟨dx, e2⟩)
    · walk_at "zz"
      refine z_divN hc0 hc (by decide) (by decide) ?_
      unfold rt at q1
      rw [e] at q1
      exact q1
    · walk_at "zz"
      refine z_divN hc0 hc (by decide) (by decide) ?_
      unfold rb at q1
      rw [e] at q1
      exact q1
  · walk_at "zz"
    have e : rc n d = ((Int.gcd n d : Nat) : Int) := by unfold rc; rw [if_neg c2]
    rw [e] at hc hc0
    refine run_rinit (a := .int (rt n d)) (b := .int (rb n d)) L.cl_Ratio L.na_Ratio_top L.na_Ratio_bottom hx hdx ne rfl (fun H1 Q1 q1 => ?_) (fun H1 Q1 q1 => ?_) (fun H' e1 e2 => k c H' e1 ⟨dx, e2⟩)
    · walk_at "zz"
      refine z_divN hc0 hc (by decide) (by decide) ?_
      unfold rt at q1
      rw [e] at q1
      exact q1
    · walk_at "zz"
      refine z_divN hc0 hc (by decide) (by decide) ?_
      unfold rb at q1
      rw [e] at q1
      exact q1
theorem c_RatioD_initD (L : Lw K mg) : Mak P w K mg base 1 "Ratio" (He.ga K "Ratio") (sp3 (fs_rinit K)) [] := by
  obtain ⟨fd, F⟩ := L.d_RatioD_initD
  obtain ⟨ds, vds, bds⟩ := F.binds1 (ps := ["self", "top", "bottom"]) 3 1 (by intro z; cases z) rfl (fun _ _ _ _ _ _ _ us its hl hi => match us, its, hl, hi with | [_, _, _], [_], _, _ => ⟨_, rfl, rfl⟩)
  exact ⟨⟨_, fd, ["self", "top", "bottom"], ds, L.mk_Ratio, ok_RatioD_initD L F, L.g_Ratio, bds, vds⟩⟩
theorem c1_RatioD_initD (L : Lw K mg) : Mak P w K mg base 1 "Ratio" (He.ga K "Ratio") (sp3 (fs_rinit K)) [V.int 1] := by
  obtain ⟨fd, F⟩ := L.d_RatioD_initD
  obtain ⟨ds, vds, bds⟩ := F.binds1 (ps := ["self", "top", "bottom"]) 2 0 (by intro z; cases z) rfl (fun _ _ _ _ _ _ _ us its hl hi => match us, its, hl, hi with | [_, _], [_], _, _ => ⟨_, rfl, rfl⟩)
  exact ⟨⟨_, fd, ["self", "top", "bottom"], ds, L.mk_Ratio, ok_RatioD_initD L F, L.g_Ratio, bds, vds⟩⟩
end
end T
set_option maxHeartbeats 4000000
namespace T
open PySem PySem.Spec PyProof.Rows L2 Z
/-! the readings' steps, as one word: walk_at "z" (one step), "zz" (as far as it goes), "up" (a fact carried here) -/
local macro_rules | `(tactic| walk_at "up") => `(tactic| first
  | assumption
  | (refine' IsR.mono (by assumption) ?zup; case zup => walk_at "up")
  | (refine' IsE.mono (by assumption) ?zup; case zup => walk_at "up")
  | (refine' Same.at (by assumption) ?zup; case zup => walk_at "up")
  | (refine' SqL.of ?zup; case zup => walk_at "up")
  | (refine' L2.Same.seq (by assumption) ?zup; case zup => walk_at "up"))
local macro_rules | `(tactic| walk_at "z") => `(tactic| first
  | ((with_reducible refine' z_var ?zvh ?_); (case zvh => exact rfl))
  | with_reducible refine z_c ?_
  | with_reducible refine z_cons ?_
  | with_reducible refine z_nil ?_
  | with_reducible refine z_op ?_
  | with_reducible refine z_nx ?_
  | with_reducible refine z_seq ?_
  | with_reducible refine z_asg ?_
  | with_reducible refine z_asgG ?_
  | with_reducible refine z_call ?_
  | with_reducible refine z_sq0 ?_
  | with_reducible refine z_sq1 ?_
  | with_reducible refine z_ifS ?_
  | with_reducible refine z_test ?_
  | with_reducible refine z_tb ?_
  | with_reducible refine z_bl ?_
  | with_reducible refine z_blI ?_
  | with_reducible refine z_ret ?_
  | with_reducible refine z_rt ?_
  | with_reducible refine z_T ?_
  | with_reducible refine z_F ?_
  | with_reducible refine z_add ?_
  | with_reducible refine z_sub ?_
  | with_reducible refine z_neg ?_
  | with_reducible refine z_un ?_
  | with_reducible refine z_eqI ?_
  | with_reducible refine z_neI ?_
  | with_reducible refine z_lt ?_
  | with_reducible refine z_le ?_
  | with_reducible refine z_gt ?_
  | with_reducible refine z_ge ?_
  | with_reducible refine z_not ?_
  | with_reducible refine z_and ?_
  | with_reducible refine z_or ?_
  | with_reducible refine z_andV ?_
  | with_reducible refine z_orV ?_
  | with_reducible refine z_notV ?_
  | with_reducible refine z_if ?_
  | with_reducible refine z_cb ?_
  | with_reducible refine z_int1 ?_
  | with_reducible refine z_intb ?_
  | with_reducible refine z_abs ?_
  | with_reducible refine z_gcd ?_
  | with_reducible refine z_isi_ii ?_
  | with_reducible refine z_isi_ib ?_
  | with_reducible refine z_next ?_
  | with_reducible refine z_drop ?_
  | with_reducible refine z_par ?_
  | with_reducible refine z_par2 ?_
  | with_reducible refine z_tupN ?_
  | with_reducible refine z_lstN ?_
  | ((with_reducible refine' z_nt ?zl1 ?_); (case zl1 => exact Nat.le_of_ble_eq_true rfl); intro p H' hp hs he)
  | ((with_reducible refine' z_gtup ?zl1 ?zl2 ?_); (case zl1 => walk_at "up"); (case zl2 => exact rfl))
  | with_reducible refine z_bk ?_
  | with_reducible refine z_ct ?_
  | with_reducible refine z_break ?_
  | with_reducible refine z_cont ?_
  | with_reducible refine z_retN ?_
  | with_reducible refine z_nn ?_
  | with_reducible refine z_mk ?_
  | with_reducible refine z_gn ?_
  | with_reducible refine z_gcons ?_
  | with_reducible refine z_gnil ?_
  | with_reducible refine z_mt ?_
  | with_reducible refine z_mko ?_
  | with_reducible refine z_for2 ?_
  | with_reducible refine z_ownI ?_
  | ((with_reducible refine' z_lenL ?zl1 ?_); (case zl1 => walk_at "up"))
  | ((with_reducible refine' z_ixT ?zl1 ?zl2 ?_); (case zl1 => walk_at "up"); (case zl2 => exact rfl))
  | ((with_reducible refine' z_mulL ?zl1 ?zl2 ?_); (case zl1 => omega); (case zl2 => omega))
  | ((with_reducible refine' z_mulR ?zl1 ?zl2 ?_); (case zl1 => omega); (case zl2 => omega))
  | ((with_reducible refine' z_divS ?zl1 ?zl2 ?_); (case zl1 => omega); (case zl2 => omega))
  | ((with_reducible refine' z_mulW ?zl1 ?zl2 ?zl3 ?zl4 ?_); (case zl1 => omega); (case zl2 => omega); (case zl3 => omega); (case zl4 => omega))
  | ((with_reducible refine' z_divW ?zl1 ?zl2 ?_); (case zl1 => omega); (case zl2 => omega)))
local macro_rules | `(tactic| walk_at "zz") => `(tactic| repeat (walk_at "z"))
local macro_rules | `(tactic| walk_at "z") => `(tactic| with_reducible refine z_lstN ?_)
local macro_rules | `(tactic| walk_at "z") => `(tactic| with_reducible refine z_p6 ?_)
local macro_rules | `(tactic| walk_at "z") => `(tactic| with_reducible refine z_p12 ?_)
local macro_rules | `(tactic| walk_at "z") => `(tactic| with_reducible refine z_p13 ?_)
local macro_rules | `(tactic| walk_at "z") => `(tactic| with_reducible refine z_calln ?_)
local macro_rules | `(tactic| walk_at "z") => `(tactic| with_reducible refine z_xfS ?_)
local macro_rules | `(tactic| walk_at "z") => `(tactic| with_reducible refine z_lcS ?_)
local macro_rules | `(tactic| walk_at "z") => `(tactic| with_reducible refine z_lcRS ?_)
local macro_rules | `(tactic| walk_at "z") => `(tactic| with_reducible refine z_lcZS ?_)
local macro_rules | `(tactic| walk_at "z") => `(tactic| with_reducible refine z_foS ?_)
local macro_rules | `(tactic| walk_at "z") => `(tactic| with_reducible refine z_for1 ?_)
local macro_rules | `(tactic| walk_at "z") => `(tactic| with_reducible refine z_tsl ?_)
local macro_rules | `(tactic| walk_at "z") => `(tactic| with_reducible refine z_np ?_)
local macro_rules | `(tactic| walk_at "z") => `(tactic| with_reducible refine z_pt ?_)
local macro_rules | `(tactic| walk_at "z") => `(tactic| with_reducible refine z_pti ?_)
local macro_rules | `(tactic| walk_at "z") => `(tactic| with_reducible refine z_catI ?_)
local macro_rules | `(tactic| walk_at "z") => `(tactic| with_reducible refine z_isNI ?_)
local macro_rules | `(tactic| walk_at "z") => `(tactic| with_reducible refine z_isNN ?_)
local macro_rules | `(tactic| walk_at "z") => `(tactic| with_reducible refine z_notNI ?_)
local macro_rules | `(tactic| walk_at "z") => `(tactic| with_reducible refine z_notNN ?_)
local macro_rules | `(tactic| walk_at "z") => `(tactic| with_reducible refine z_gsub ?_)
local macro_rules | `(tactic| walk_at "z") => `(tactic| with_reducible refine z_isNb ?_)
local macro_rules | `(tactic| walk_at "z") => `(tactic| with_reducible refine z_notNb ?_)
local macro_rules | `(tactic| walk_at "z") => `(tactic| ((with_reducible refine' z_nlR ?zl1 ?_); (case zl1 => exact Nat.le_of_ble_eq_true rfl); intro p H' hp hs he))
local macro_rules | `(tactic| walk_at "z") => `(tactic| ((with_reducible refine' z_repR ?zl1 ?zl2 ?_); (case zl1 => omega); (case zl2 => omega)))
local macro_rules | `(tactic| walk_at "z") => `(tactic| ((with_reducible refine' z_repL ?zl1 ?zl2 ?_); (case zl1 => omega); (case zl2 => omega)))
local macro_rules | `(tactic| walk_at "z") => `(tactic| ((with_reducible refine' z_lenLst ?zl1 ?_); (case zl1 => walk_at "up")))
local macro_rules | `(tactic| walk_at "z") => `(tactic| ((with_reducible refine' z_cat ?zl1 ?zl2 ?zl3 ?_); (case zl1 => walk_at "up"); (case zl2 => walk_at "up"); (case zl3 => (simp only [List.length_map, List.length_cons, List.length_nil, List.length_append, List.length_replicate]; omega)); intro p H' hp hs he))
local macro_rules | `(tactic| walk_at "z") => `(tactic| with_reducible refine z_sfl ?_)
local macro_rules | `(tactic| walk_at "z") => `(tactic| with_reducible refine z_lcES ?_)
local macro_rules | `(tactic| walk_at "z") => `(tactic| with_reducible refine z_lcMS ?_)
local macro_rules | `(tactic| walk_at "z") => `(tactic| with_reducible refine z_foES ?_)
local macro_rules | `(tactic| walk_at "z") => `(tactic| with_reducible refine z_fo3S ?_)
local macro_rules | `(tactic| walk_at "z") => `(tactic| with_reducible refine z_sta ?_)
local macro_rules | `(tactic| walk_at "z") => `(tactic| with_reducible refine z_sta1 ?_)
local macro_rules | `(tactic| walk_at "z") => `(tactic| ((with_reducible refine' z_fldt ?zc1 ?zc2 ?zl1 ?zl2 ?_); (case zc1 => exact Lw.cl_Ratio (by assumption)); (case zc2 => exact Lw.na_Ratio_top (by assumption)); (case zl1 => exact rfl); (case zl2 => walk_at "up")))
local macro_rules | `(tactic| walk_at "z") => `(tactic| ((with_reducible refine' z_fldb ?zc1 ?zc2 ?zl1 ?zl2 ?_); (case zc1 => exact Lw.cl_Ratio (by assumption)); (case zc2 => exact Lw.na_Ratio_bottom (by assumption)); (case zl1 => exact rfl); (case zl2 => walk_at "up")))
theorem same30b {H H1 H2 : Hp} (h : Same H1 H2) (e : Same H H1) : Same H H2 := e.trans h
local macro_rules | `(tactic| walk_at "sm") => `(tactic| first
  | assumption
  | exact fun _ _ h => h
  | (refine' same30b (by assumption) ?zsm; case zsm => walk_at "sm"))
local macro_rules | `(tactic| walk_at "up") => `(tactic| first
  | assumption
  | (with_reducible refine' IsR.mono (by assumption) ?zup; case zup => walk_at "up")
  | (with_reducible refine' Same.at (by assumption) ?zup; case zup => walk_at "up")
  | fail)
open S31 (cf)
open S30
/-- a Ratio with the value v -/
def IsV (K : Frag) (H : Hp) (p : Addr) (v : Rat) (B : Nat) : Prop := ∃ t b : Int, IsR K H p t b ∧ 0 < b ∧ Bits B t ∧ Bits B b ∧ (t : Rat) = v * (b : Rat)
theorem IsR.monoN {K : Frag} {H H' : Hp} {a : Addr} {t b : Int} (s : SameN H H') (h : IsR K H a t b) : IsR K H' a t b := h.elim fun dx q => ⟨dx, s _ _ q (fun _ z => nomatch z)⟩
theorem IsV.monoN {K : Frag} {H H' : Hp} {p : Addr} {v : Rat} {B : Nat} (s : SameN H H') (h : IsV K H p v B) : IsV K H' p v B := by
  obtain ⟨t, b, h1, h⟩ := h
  exact ⟨t, b, IsR.monoN s h1, h⟩
theorem IsV.mono {K : Frag} {H H' : Hp} {p : Addr} {v : Rat} {B : Nat} (s : Same H H') (h : IsV K H p v B) : IsV K H' p v B := h.monoN (SameN.of s)
/-- lists of Ratios, of pairs -/
def itR (K : Frag) (v : Sq) (B : Nat) : Hp → V → Nat → Prop := fun H x k => ∃ a, x = .ref a ∧ IsV K H a (v k) B
def itP (v : Sq) (B : Nat) : Hp → V → Nat → Prop := fun H x k => ∃ (a : Addr) (t b : Int), x = .ref a ∧ H a = some (.tup [.int t, .int b]) ∧ 0 < b ∧ Bits B t ∧ Bits B b ∧ (t : Rat) = v k * (b : Rat)
theorem itR_mono {K : Frag} {v : Sq} {B : Nat} : Mono (itR K v B) := fun H H' x k s h => by
  obtain ⟨a, e, h⟩ := h
  exact ⟨a, e, h.monoN s⟩
theorem itP_mono {v : Sq} {B : Nat} : Mono (itP v B) := fun H H' x k s h => by
  obtain ⟨a, t, b, e, h, r⟩ := h
  exact ⟨a, t, b, e, s _ _ h (fun _ z => nomatch z), r⟩
def RL (K : Frag) (H : Hp) (l : Addr) (n : Nat) (v : Sq) (B : Nat) : Prop := Ls H l n (itR K v B)
def PL (H : Hp) (l : Addr) (n : Nat) (v : Sq) (B : Nat) : Prop := Ls H l n (itP v B)
theorem RL.mono {K : Frag} {H H' : Hp} {l : Addr} {n : Nat} {v : Sq} {B : Nat} (s : Same H H') (h : RL K H l n v B) : RL K H' l n v B := Ls.mono itR_mono s h
theorem PL.mono {H H' : Hp} {l : Addr} {n : Nat} {v : Sq} {B : Nat} (s : Same H H') (h : PL H l n v B) : PL H' l n v B := Ls.mono itP_mono s h
/-- a Poly of the numbers ls over o -/
def IsQ (K : Frag) (H : Hp) (p : Addr) (ls : List Int) (o : Int) : Prop := ∃ (dx t : Addr), H p = some (.ins (He.ga K "Poly") dx [("numbers", .ref t), ("over", .int o), ("degree", .int ((ls.length : Int) - 1))]) ∧ H t = some (.tup (ls.map V.int))
theorem IsQ.mono {K : Frag} {H H' : Hp} {p : Addr} {ls : List Int} {o : Int} (s : Same H H') (h : IsQ K H p ls o) : IsQ K H' p ls o := by
  obtain ⟨dx, t, h1, h2⟩ := h
  exact ⟨dx, t, s _ _ h1, s _ _ h2⟩
def fs_cn (K : Frag) : F3 := fun a b c H Q E => ∃ v l : Int, a = .int v ∧ b = .int l ∧ (c = .non ∨ ∃ h, c = .int h) ∧
  ((l ≤ v ∧ ∀ h, c = .int h → v ≤ h) → Q .non H) ∧ (¬ (l ≤ v ∧ ∀ h, c = .int h → v ≤ h) → ∀ d H', Same H H' → H' d = some (.xd [("value", .int v)]) → E (.ref (He.ga K "OutOfBounds")) (some d) H')
def fs_cs (K : Frag) : F3 := fun a b c H Q E => ∃ (p : Addr) (xs : List V) (l h : Int), a = .ref p ∧ b = .int l ∧ c = .int h ∧ (H p = some (.lst xs) ∨ H p = some (.tup xs)) ∧
  ((l ≤ xs.length ∧ (xs.length : Int) ≤ h) → Q .non H) ∧ (¬ (l ≤ xs.length ∧ (xs.length : Int) ≤ h) → ∀ d H', Same H H' → H' d = some (.xd [("size", .int (xs.length : Int))]) → E (.ref (He.ga K "BadSize")) (some d) H')
section
variable {P : Program} {w : World} {K : Frag} {mg : Str → Option Value} {base : Heap}
theorem ok_OutOfBoundsD_initD (L : Lw K mg) {fd : FuncData} (F : FunD K "__init__" "OutOfBounds.__init__" (defArgs s_OutOfBoundsD_initD) (defBody s_OutOfBoundsD_initD) (defScope s_OutOfBoundsD_initD) (df_OutOfBoundsD_initD.dvs K) (df_OutOfBoundsD_initD.kws K) (He.fAd K ("OutOfBounds", some "__init__")) fd) : FnOk P w K mg base (L2N.CX P w) 1 (He.fAd K ("OutOfBounds", some "__init__")) fd (["self", "value"] : List Str) (sp2 (fs_ex1 K "OutOfBounds" "value")) := by
  refine FunD.ok F sc_OutOfBoundsD_initD len2 (fun cdv A outer s H vs Q E hr h => ?_)
  obtain ⟨a, b, rfl, h⟩ := h
  refine ⟨_, (pss_one (ps_ost (pv 0) (pv 1))), ?_⟩
  obtain ⟨e, H0, rfl, rfl, h0, k⟩ := h
  exact run_ex1 (L.ox_OutOfBounds).1 L.na_OutOfBounds_value h0 rfl rfl k
theorem c_OutOfBoundsD_initD (L : Lw K mg) : MakX P w K mg base 1 "OutOfBounds" (He.ga K "OutOfBounds") (sp2 (fs_ex1 K "OutOfBounds" "value")) := by
  obtain ⟨fd, F⟩ := L.d_OutOfBoundsD_initD
  exact ⟨⟨_, fd, ["self", "value"], (L.ox_OutOfBounds).1, (L.ox_OutOfBounds).2.1, (L.ox_OutOfBounds).2.2, ok_OutOfBoundsD_initD L F, L.g_OutOfBounds, F.bindsN (fun _ _ _ _ _ _ us hl => match us, hl with | [_, _], _ => rfl)⟩⟩
theorem ok_BadSizeD_initD (L : Lw K mg) {fd : FuncData} (F : FunD K "__init__" "BadSize.__init__" (defArgs s_BadSizeD_initD) (defBody s_BadSizeD_initD) (defScope s_BadSizeD_initD) (df_BadSizeD_initD.dvs K) (df_BadSizeD_initD.kws K) (He.fAd K ("BadSize", some "__init__")) fd) : FnOk P w K mg base (L2N.CX P w) 1 (He.fAd K ("BadSize", some "__init__")) fd (["self", "size"] : List Str) (sp2 (fs_ex1 K "BadSize" "size")) := by
  refine FunD.ok F sc_BadSizeD_initD len2 (fun cdv A outer s H vs Q E hr h => ?_)
  obtain ⟨a, b, rfl, h⟩ := h
  refine ⟨_, (pss_one (ps_ost (pv 0) (pv 1))), ?_⟩
  obtain ⟨e, H0, rfl, rfl, h0, k⟩ := h
  exact run_ex1 (L.ox_BadSize).1 L.na_BadSize_size h0 rfl rfl k
theorem c_BadSizeD_initD (L : Lw K mg) : MakX P w K mg base 1 "BadSize" (He.ga K "BadSize") (sp2 (fs_ex1 K "BadSize" "size")) := by
  obtain ⟨fd, F⟩ := L.d_BadSizeD_initD
  exact ⟨⟨_, fd, ["self", "size"], (L.ox_BadSize).1, (L.ox_BadSize).2.1, (L.ox_BadSize).2.2, ok_BadSizeD_initD L F, L.g_BadSize, F.bindsN (fun _ _ _ _ _ _ us hl => match us, hl with | [_, _], _ => rfl)⟩⟩
theorem ok_check_number (L : Lw K mg) {fd : FuncData} (F : FunD K "check_number" "check_number" (defArgs s_check_number) (defBody s_check_number) (defScope s_check_number) (df_check_number.dvs K) (df_check_number.kws K) (He.fAd K ("check_number", none)) fd) : FnOk P w K mg base (L2N.CX P w) 3 (He.fAd K ("check_number", none)) fd (["value", "low", "high"] : List Str) (sp3 (fs_cn K)) := by
  refine FunD.ok F sc_check_number len3 (fun cdv A outer s H vs Q E hr h => ?_)
  obtain ⟨a, b, c, rfl, h⟩ := h
  refine ⟨_, (pss_one (ps_if (PW.pt (pw_or (pt_cmpR o_lt (pv 0) (pv 1) (nomark _)) (pw_or1 (PW.pt (pw_and (pt_cmpR o_notN (pv 2) pe_non (nomark _)) (pw_and1 (pt_cmpR o_gt (pv 0) (pv 2) (nomark _)))))))) (pss_one (L2N.ps_raise rfl (L2N.takes_of rfl rfl rfl rfl) (pmk_x (c_OutOfBoundsD_initD (K := K) L) hr (by decide) passF (pa_cons (pv 0) pa_nil)))) pss_nil)), ?_⟩
  obtain ⟨v, l, rfl, rfl, hc, k, kx⟩ := h
  walk_at "zz"
  refine z_d2 (fun c => ?_) (fun c => ?_)
  · walk_at "zz"
    exact z_exo1 (kx (by omega))
  · rcases hc with rfl | ⟨h, rfl⟩
    · walk_at "zz"
      exact k ⟨by omega, fun h e => by cases e⟩
    · walk_at "zz"
      refine z_d2 (fun c2 => ?_) (fun c2 => ?_)
      · walk_at "zz"
        exact z_exo1 (kx (fun z => absurd (z.2 h rfl) (by omega)))
      · walk_at "zz"
        exact k ⟨by omega, fun h' e => by cases e; omega⟩
theorem c_check_number (L : Lw K mg) : Cal P w K mg base 3 "check_number" (sp3 (fs_cn K)) [] := by
  obtain ⟨fd, F⟩ := L.d_check_number
  obtain ⟨ds, vds, bds⟩ := F.binds1 (ps := ["value", "low", "high"]) 3 1 (by intro z; cases z) rfl (fun _ _ _ _ _ _ _ us its hl hi => match us, its, hl, hi with | [_, _, _], [_], _, _ => ⟨_, rfl, rfl⟩)
  exact ⟨⟨_, fd, ["value", "low", "high"], ds, ok_check_number L F, L.g_check_number, F.kp, bds, vds⟩⟩
theorem c1_check_number (L : Lw K mg) : Cal P w K mg base 3 "check_number" (sp3 (fs_cn K)) [V.non] := by
  obtain ⟨fd, F⟩ := L.d_check_number
  obtain ⟨ds, vds, bds⟩ := F.binds1 (ps := ["value", "low", "high"]) 2 0 (by intro z; cases z) rfl (fun _ _ _ _ _ _ _ us its hl hi => match us, its, hl, hi with | [_, _], [_], _, _ => ⟨_, rfl, rfl⟩)
  exact ⟨⟨_, fd, ["value", "low", "high"], ds, ok_check_number L F, L.g_check_number, F.kp, bds, vds⟩⟩
theorem ok_check_size (L : Lw K mg) {fd : FuncData} (F : FunD K "check_size" "check_size" (defArgs s_check_size) (defBody s_check_size) (defScope s_check_size) (df_check_size.dvs K) (df_check_size.kws K) (He.fAd K ("check_size", none)) fd) : FnOk P w K mg base (L2N.CX P w) 3 (He.fAd K ("check_size", none)) fd (["things", "low", "high"] : List Str) (sp3 (fs_cs K)) := by
  refine FunD.ok F sc_check_size len3 (fun cdv A outer s H vs Q E hr h => ?_)
  obtain ⟨a, b, c, rfl, h⟩ := h
  refine ⟨_, (pss_cons (ps_set (i := 3) sc_check_size.nd rfl (by first | exact Or.inl rfl | exact Or.inr rfl) (pe_callB (callK rLen1 (K := K) rfl o_len) (by rfl) L.f_len (by decide +kernel) (pa_cons (pv 0) pa_nil)))
    (pss_one (ps_if (PW.pt (pw_or (pt_cmpR o_lt (pv 3) (pv 1) (nomark _)) (pw_or1 (pt_cmpR o_gt (pv 3) (pv 2) (nomark _))))) (pss_one (L2N.ps_raise rfl (L2N.takes_of rfl rfl rfl rfl) (pmk_x (c_BadSizeD_initD (K := K) L) hr (by decide) passF (pa_cons (pv 3) pa_nil)))) pss_nil))), ?_⟩
  obtain ⟨p, xs, l, h, rfl, rfl, rfl, hp, k, kx⟩ := h
  rcases hp with hp | hp
  · walk_at "zz"
    refine z_d2 (fun c => ?_) (fun c => ?_)
    · walk_at "zz"
      exact z_exo1 (kx (by omega))
    · walk_at "zz"
      refine z_d2 (fun c2 => ?_) (fun c2 => ?_)
      · walk_at "zz"
        exact z_exo1 (kx (by omega))
      · walk_at "zz"
        exact k (by omega)
  · walk_at "zz"
    refine z_lenT hp ?_
    walk_at "zz"
    refine z_d2 (fun c => ?_) (fun c => ?_)
    · walk_at "zz"
      exact z_exo1 (kx (by omega))
    · walk_at "zz"
      refine z_d2 (fun c2 => ?_) (fun c2 => ?_)
      · walk_at "zz"
        exact z_exo1 (kx (by omega))
      · walk_at "zz"
        exact k (by omega)
theorem c_check_size (L : Lw K mg) : Cal P w K mg base 3 "check_size" (sp3 (fs_cs K)) [] := by
  obtain ⟨fd, F⟩ := L.d_check_size
  exact ⟨⟨_, fd, ["things", "low", "high"], [], ok_check_size L F, L.g_check_size, F.kp, F.bindsN (fun _ _ _ _ _ _ us hl => match us, hl with | [_, _, _], _ => rfl), .nil⟩⟩
end
def fs_low : F2 := fun a b H Q _ => ∃ (p : Addr) (ns : List Int) (o : Int), a = .ref p ∧ b = .int o ∧ H p = some (.lst (ns.map V.int)) ∧ ns.length ≤ 16777216 ∧ 1 ≤ o ∧ Bits 8999 o ∧
  ∀ t q H' ls o', Same H H' → H' t = some (.tup [.ref q, .int o']) → H' q = some (.tup (ls.map V.int)) → LowT ns o ls o' → Q (.ref t) H'
section
variable {P : Program} {w : World} {K : Frag} {mg : Str → Option Value} {base : Heap}
theorem ok_lowest_terms (L : Lw K mg) {fd : FuncData} (F : FunD K "lowest_terms" "lowest_terms" (defArgs s_lowest_terms) (defBody s_lowest_terms) (defScope s_lowest_terms) (df_lowest_terms.dvs K) (df_lowest_terms.kws K) (He.fAd K ("lowest_terms", none)) fd) : FnOk P w K mg base (L2N.CX P w) 1 (He.fAd K ("lowest_terms", none)) fd (["numbers", "over"] : List Str) (sp2 fs_low) := by
  refine FunD.ok F sc_lowest_terms len2 (fun cdv A outer s H vs Q E hr h => ?_)
  obtain ⟨a, b, rfl, h⟩ := h
  refine ⟨_, (pss_cons (ps_set (i := 2) sc_lowest_terms.nd rfl (by first | exact Or.inl rfl | exact Or.inr rfl) (pe_callB (callK rLen1 (K := K) rfl o_len) (by rfl) L.f_len (by decide +kernel) (pa_cons (pv 0) pa_nil)))
    (pss_cons (ps_while (passes_of rfl) (PW.pt (pw_and (pt_cmpR o_gt (pv 2) pe_int (nomark _)) (pw_and1 (pt_cmpR op_eq (pe_ix (ix_seqK (K := K) rfl) (pv 0) (pe_op o_sub (pv 2) pe_int) (fun _ _ => rfl)) pe_int (nomark _))))) (pss_one (ps_set (i := 2) sc_lowest_terms.nd rfl (by first | exact Or.inl rfl | exact Or.inr rfl) (pe_op o_sub (pv 2) pe_int))))
    (pss_cons (ps_if (pt_cmpR op_eq (pv 2) pe_int (nomark _)) (pss_one (ps_ret (pe_tup (pa_cons (pe_tup pa_nil) (pa_cons pe_int pa_nil))))) pss_nil)
    (pss_cons (ps_set (i := 3) sc_lowest_terms.nd rfl (by first | exact Or.inl rfl | exact Or.inr rfl) (pe_callB o_abs (by rfl) L.f_abs (by decide +kernel) (pa_cons (pv 1) pa_nil)))
    (pss_cons (ps_for (passes_of rfl) rfl (pi_listK (K := K) rfl (pe_slice (slK rSlL (K := K) rfl sl_list) (pv 0) po_none (po_some (pv 2)))) (pg_name (i := 4) sc_lowest_terms.nd rfl (by first | exact Or.inl rfl | exact Or.inr rfl)) (pss_one (ps_set (i := 3) sc_lowest_terms.nd rfl (by first | exact Or.inl rfl | exact Or.inr rfl) (pe_callBfun cr_gcd rfl L.v_gcd (pa_cons (pv 3) (pa_cons (pv 4) pa_nil))))))
    (pss_cons (ps_if (pt_cmpR o_lt (pv 1) pe_int (nomark _)) (pss_one (ps_set (i := 3) sc_lowest_terms.nd rfl (by first | exact Or.inl rfl | exact Or.inr rfl) (pe_un o_neg (pv 3)))) pss_nil)
    (pss_one (ps_ret (pe_tup (pa_cons (pe_callTy (callK rTup1 (K := K) rfl call_tuple_of) (by rfl) L.f_tuple (by decide +kernel) (pa_cons (pe_lc (own := [("number", 4)]) (g := (gName 4)) (tt := tYes) rfl sc_lowest_terms.nd (pi_listK (K := K) rfl (pe_slice (slK rSlL (K := K) rfl sl_list) (pv 0) po_none (po_some (pv 2)))) (blkOk_by (N := ["numbers", "over", "size", "common", "number"]) (sc := defScope s_lowest_terms) (by decide +kernel)) (fun _ _ _ _ _ => pg_name (i := 4) sc_lowest_terms.nd rfl (Or.inl rfl)) (fun _ _ _ _ _ => pts_nil) (fun _ _ _ _ _ => (pe_op o_div (pv 4) (pv 3)))) pa_nil)) (pa_cons (pe_op o_div (pv 1) (pv 3)) pa_nil))))))))))), ?_⟩
  obtain ⟨p, ns, o, rfl, rfl, hp, hl, o1, o2, k⟩ := h
  walk_at "zz"
  refine ⟨fun m σ' H' => ∃ s : Nat, σ' = [some (.ref p), some (.int o), some (.int s), none, none] ∧ H' = H ∧ m = s ∧ s ≤ ns.length ∧ ∀ k, s ≤ k → S31.cf ns k = 0, ⟨_, ns.length, ?_, rfl, rfl, Nat.le_refl _, fun k hk => S31.cf_out hk⟩, ?_⟩
  · rw [List.length_map]
    rfl
  rintro m σ' H' ⟨sz, rfl, rfl, em, hs, hz⟩
  walk_at "zz"
  refine z_d2 (fun c => ?_) (fun c => ?_)
  · have hs1 : (((sz : Nat) : Int) - 1).toNat = sz - 1 := by omega
    have hin : sz - 1 < ns.length := by omega
    walk_at "zz"
    refine z_ixL (SqL.of hp) (at_int (v := S31.cf ns (sz - 1)) (by omega) (by rw [hs1, S31.cf_in hin]; exact List.getElem?_eq_getElem hin)) ?_
    walk_at "zz"
    refine z_d2 (fun c2 => ?_) (fun c2 => ?_)
    · refine ⟨_, fun _ _ h => h, ?_⟩
      walk_at "zz"
      refine ⟨sz - 1, by omega, sz - 1, ?_, rfl, rfl, by omega, fun k hk => ?_⟩
      · have e : ((sz : Nat) : Int) - 1 = ((sz - 1 : Nat) : Int) := by omega
        rw [e]
        rfl
      · by_cases e : k = sz - 1
        · rw [e]
          exact c2
        · exact hz k (by omega)
    · obtain ⟨s, rfl⟩ : ∃ s, sz = s + 1 := ⟨sz - 1, by omega⟩
      rw [Nat.add_sub_cancel] at c2
      walk_at "zz"
      refine z_dF (by omega) ?_
      walk_at "zz"
      have ho : ((o.natAbs : Nat) : Int) = o := by omega
      rw [ho]
      refine z_sll hp (fun p2 H2 hp2 s2 e2 => ?_)
      rw [cut_hi, ← List.map_take] at e2
      have lw := lowt_of (show 0 < o by omega) hs hz c2
      have gb := gl_bits (ns := ns.take (s + 1)) (show 0 < o by omega)
      have g0 := S31.gl_pos (c := o) (by omega) (ns.take (s + 1))
      refine z_foV e2 (fun k σ' H' => ∃ x, σ' = [some (.ref p), some (.int o), some (.int ((s + 1 : Nat) : Int)), some (.int (S31.gl o ((ns.take (s + 1)).take k))), x] ∧ H' = H2) ⟨none, by rw [List.take_zero]; rfl, rfl⟩ (fun k σ' H' z => by obtain ⟨x, _, rfl⟩ := z; exact e2) ?_ ?_
      · rintro k x σ' H' hx ⟨y, rfl, rfl⟩
        rw [List.getElem?_map] at hx
        have hk : k < (ns.take (s + 1)).length := by
          by_cases q : k < (ns.take (s + 1)).length
          · exact q
          · rw [List.getElem?_eq_none (by omega)] at hx
            cases hx
        rw [List.getElem?_eq_getElem hk] at hx
        have hx' : V.int (ns.take (s + 1))[k] = x := Option.some.inj hx
        subst hx'
        walk_at "zz"
        refine ⟨some (.int (ns.take (s + 1))[k]), ?_, rfl⟩
        rw [List.take_succ_eq_append_getElem hk, S31.gl_snoc]
        rfl
      · rintro σ' H' ⟨x, rfl, rfl⟩
        have el : (ns.take (s + 1)).take ((ns.take (s + 1)).map V.int).length = ns.take (s + 1) := by
          rw [List.length_map, List.take_length]
        rw [el]
        walk_at "zz"
        refine z_dF (by omega) ?_
        walk_at "zz"
        refine z_sll (s2 _ _ hp) (fun p3 H3 hp3 s3 e3 => ?_)
        rw [cut_hi, ← List.map_take] at e3
        refine z_lcI (fun n => V.int (n / S31.gl o (ns.take (s + 1)))) e3 (by rw [List.length_take]; omega) (fun n H4 N hn s4 c4 => ⟨rfl, ?_⟩) (fun D HD hD sD hl => ?_)
        · walk_at "zz"
          refine z_div g0.1 (Bits.le o2 gb) (by decide) (by decide) ?_
          exact c4 _ (fun _ _ h => h)
        · walk_at "zz"
          refine z_tup1L hl (fun t Ht ht st et => ?_)
          walk_at "zz"
          refine z_div g0.1 (Bits.le o2 gb) (by decide) (by decide) ?_
          walk_at "zz"
          have hm : (ns.take (s + 1)).map (fun n => V.int (n / S31.gl o (ns.take (s + 1)))) = ((ns.take (s + 1)).map fun n => n / S31.gl o (ns.take (s + 1))).map V.int := by rw [List.map_map]; rfl
          rw [hm] at et
          exact k _ _ _ _ _ (by walk_at "sm") (by assumption) (by walk_at "up") lw
  · have s0 : sz = 0 := by omega
    subst s0
    walk_at "zz"
    refine z_dT rfl ?_
    walk_at "zz"
    exact k _ _ _ [] _ (by walk_at "sm") (by assumption) (by walk_at "up") (lowt_nil (by omega) fun k => hz k (Nat.zero_le _))
theorem c_lowest_terms (L : Lw K mg) : Cal P w K mg base 1 "lowest_terms" (sp2 fs_low) [] := by
  obtain ⟨fd, F⟩ := L.d_lowest_terms
  exact ⟨⟨_, fd, ["numbers", "over"], [], ok_lowest_terms L F, L.g_lowest_terms, F.kp, F.bindsN (fun _ _ _ _ _ _ us hl => match us, hl with | [_, _], _ => rfl), .nil⟩⟩
end
def fs_pinit (K : Frag) : F3 := fun a b c H Q _ => ∃ (x dx q : Addr) (H0 : Hp) (ns : List Int) (o : Int), a = .ref x ∧ b = .ref q ∧ c = .int o ∧ H = upd (upd H0 dx (.own x)) x (.ins (He.ga K "Poly") dx []) ∧ H0 x = none ∧ H0 dx = none ∧ dx ≠ x ∧
  H0 q = some (.lst (ns.map V.int)) ∧ ns.length ≤ 200 ∧ 1 ≤ o ∧ Bits 8999 o ∧ ∀ H' ls o', Same H0 H' → IsQ K H' x ls o' → LowT ns o ls o' → Q .non H'
section
variable {P : Program} {w : World} {K : Frag} {mg : Str → Option Value} {base : Heap}
theorem ok_PolyD_initD (L : Lw K mg) {fd : FuncData} (F : FunD K "__init__" "Poly.__init__" (defArgs s_PolyD_initD) (defBody s_PolyD_initD) (defScope s_PolyD_initD) (df_PolyD_initD.dvs K) (df_PolyD_initD.kws K) (He.fAd K ("Poly", some "__init__")) fd) : FnOk P w K mg base (L2N.CX P w) 4 (He.fAd K ("Poly", some "__init__")) fd (["self", "numbers", "over"] : List Str) (sp3 (fs_pinit K)) := by
  refine FunD.ok F sc_PolyD_initD len3 (fun cdv A outer s H vs Q E hr h => ?_)
  obtain ⟨a, b, c, rfl, h⟩ := h
  refine ⟨_, (pss_cons (ps_expr (pe_c (c_check_size (K := K) L) hr (by decide) (L2N.takes_of rfl rfl rfl rfl) (pa_cons (pv 1) (pa_cons pe_int (pa_cons pe_int pa_nil)))))
    (pss_cons (ps_expr (pe_c (c1_check_number (K := K) L) hr (by decide) (L2N.takes_of rfl rfl rfl rfl) (pa_cons (pv 2) (pa_cons pe_int pa_nil))))
    (pss_cons (ps_asg (pe_c (c_lowest_terms (K := K) L) hr (by decide) (L2N.takes_of rfl rfl rfl rfl) (pa_cons (pv 1) (pa_cons (pv 2) pa_nil))) (pg_tup (by rfl) (pgs_cons (pg_attK (K := K) rfl (pv 0)) (pgs_cons (pg_attK (K := K) rfl (pv 0)) pgs_nil))))
    (pss_one (ps_fld (pv 0) (pe_op o_sub (pe_callB (callK rLen1 (K := K) rfl o_len) (by rfl) L.f_len (by decide +kernel) (pa_cons (pe_fld (pv 0) rfl) pa_nil)) pe_int) rfl))))), ?_⟩
  obtain ⟨x, dx, q, H0, ns, o, rfl, rfl, rfl, rfl, hx, hdx, ne, hq, hl, o1, o2, k⟩ := h
  have sm : Same H0 (upd (upd H0 dx (.own x)) x (.ins (He.ga K "Poly") dx [])) := (Same.put (Same.new hdx) hx)
  have hq' := sm _ _ hq
  have hxx : upd (upd H0 dx (.own x)) x (.ins (He.ga K "Poly") dx []) x = some (.ins (He.ga K "Poly") dx []) := upd_same
  generalize upd (upd H0 dx (.own x)) x (.ins (He.ga K "Poly") dx []) = H at *
  walk_at "zz"
  refine ⟨_, _, _, rfl, q, _, 0, 200, rfl, rfl, rfl, .inl hq', fun _ => ?_, fun z => absurd ⟨by omega, by rw [List.length_map]; omega⟩ z⟩
  walk_at "zz"
  refine ⟨_, _, _, rfl, o, 1, rfl, rfl, .inl rfl, fun _ => ?_, fun z => absurd ⟨o1, fun h e => by cases e⟩ z⟩
  walk_at "zz"
  refine ⟨_, _, rfl, q, ns, o, rfl, rfl, hq', by omega, o1, o2, fun t u H1 ls o' s1 et eu lw => ?_⟩
  walk_at "zz"
  refine z_gfld L.cl_Poly L.na_Poly_numbers rfl (s1 _ _ hxx) (by decide) ?_
  walk_at "zz"
  refine z_gfld L.cl_Poly L.na_Poly_over rfl upd_same (by show 1 < 1000; decide) ?_
  rw [pfN]
  have e1 : putF "over" (.int o') [("numbers", .ref u)] = [(("numbers" : Str), V.ref u), ("over", .int o')] := by
    rw [pfB (by decide +kernel), pfN]
  rw [e1]
  have sx : Same H0 (upd (upd H1 x (.ins (He.ga K "Poly") dx [("numbers", .ref u)])) x (.ins (He.ga K "Poly") dx [("numbers", .ref u), ("over", .int o')])) := Same.put (Same.put (sm.trans s1) hx) hx
  have ux : u ≠ x := fun e => by
    rw [e, s1 _ _ hxx] at eu
    cases eu
  have eu2 : (upd (upd H1 x (.ins (He.ga K "Poly") dx [("numbers", .ref u)])) x (.ins (He.ga K "Poly") dx [("numbers", .ref u), ("over", .int o')])) u = some (.tup (ls.map V.int)) := by
    rw [upd_ne ux, upd_ne ux]
    exact eu
  have ex2 : (upd (upd H1 x (.ins (He.ga K "Poly") dx [("numbers", .ref u)])) x (.ins (He.ga K "Poly") dx [("numbers", .ref u), ("over", .int o')])) x = some (.ins (He.ga K "Poly") dx [("numbers", .ref u), ("over", .int o')]) := upd_same
  generalize (upd (upd H1 x (.ins (He.ga K "Poly") dx [("numbers", .ref u)])) x (.ins (He.ga K "Poly") dx [("numbers", .ref u), ("over", .int o')])) = H2 at *
  walk_at "zz"
  refine z_fldG L.cl_Poly L.na_Poly_numbers rfl ex2 lkA ?_
  walk_at "zz"
  refine z_lenT eu2 ?_
  walk_at "zz"
  refine z_sflp L.cl_Poly L.na_Poly_degree rfl ex2 (by show 2 < 1000; decide) ?_
  rw [pfB (by decide +kernel), pfB (by decide +kernel), pfN, List.length_map]
  walk_at "zz"
  refine k _ ls _ (Same.put sx hx) ⟨dx, u, upd_same, ?_⟩ lw
  rw [upd_ne ux]
  exact eu2
theorem c_PolyD_initD (L : Lw K mg) : Mak P w K mg base 4 "Poly" (He.ga K "Poly") (sp3 (fs_pinit K)) [] := by
  obtain ⟨fd, F⟩ := L.d_PolyD_initD
  obtain ⟨ds, vds, bds⟩ := F.binds1 (ps := ["self", "numbers", "over"]) 3 1 (by intro z; cases z) rfl (fun _ _ _ _ _ _ _ us its hl hi => match us, its, hl, hi with | [_, _, _], [_], _, _ => ⟨_, rfl, rfl⟩)
  exact ⟨⟨_, fd, ["self", "numbers", "over"], ds, L.mk_Poly, ok_PolyD_initD L F, L.g_Poly, bds, vds⟩⟩
end
end T
set_option maxHeartbeats 4000000
namespace T
open PySem PySem.Spec PyProof.Rows L2 Z
/-! the readings' steps, as one word: walk_at "z" (one step), "zz" (as far as it goes), "up" (a fact carried here) -/
local macro_rules | `(tactic| walk_at "up") => `(tactic| first
  | assumption
  | (refine' IsR.mono (by assumption) ?zup; case zup => walk_at "up")
  | (refine' IsE.mono (by assumption) ?zup; case zup => walk_at "up")
  | (refine' Same.at (by assumption) ?zup; case zup => walk_at "up")
  | (refine' SqL.of ?zup; case zup => walk_at "up")
  | (refine' L2.Same.seq (by assumption) ?zup; case zup => walk_at "up"))
local macro_rules | `(tactic| walk_at "z") => `(tactic| first
  | ((with_reducible refine' z_var ?zvh ?_); (case zvh => exact rfl))
  | with_reducible refine z_c ?_
  | with_reducible refine z_cons ?_
  | with_reducible refine z_nil ?_
  | with_reducible refine z_op ?_
  | with_reducible refine z_nx ?_
  | with_reducible refine z_seq ?_
  | with_reducible refine z_asg ?_
  | with_reducible refine z_asgG ?_
  | with_reducible refine z_call ?_
  | with_reducible refine z_sq0 ?_
  | with_reducible refine z_sq1 ?_
  | with_reducible refine z_ifS ?_
  | with_reducible refine z_test ?_
  | with_reducible refine z_tb ?_
  | with_reducible refine z_bl ?_
  | with_reducible refine z_blI ?_
  | with_reducible refine z_ret ?_
  | with_reducible refine z_rt ?_
  | with_reducible refine z_T ?_
  | with_reducible refine z_F ?_
  | with_reducible refine z_add ?_
  | with_reducible refine z_sub ?_
  | with_reducible refine z_neg ?_
  | with_reducible refine z_un ?_
  | with_reducible refine z_eqI ?_
  | with_reducible refine z_neI ?_
  | with_reducible refine z_lt ?_
  | with_reducible refine z_le ?_
  | with_reducible refine z_gt ?_
  | with_reducible refine z_ge ?_
  | with_reducible refine z_not ?_
  | with_reducible refine z_and ?_
  | with_reducible refine z_or ?_
  | with_reducible refine z_andV ?_
  | with_reducible refine z_orV ?_
  | with_reducible refine z_notV ?_
  | with_reducible refine z_if ?_
  | with_reducible refine z_cb ?_
  | with_reducible refine z_int1 ?_
  | with_reducible refine z_intb ?_
  | with_reducible refine z_abs ?_
  | with_reducible refine z_gcd ?_
  | with_reducible refine z_isi_ii ?_
  | with_reducible refine z_isi_ib ?_
  | with_reducible refine z_next ?_
  | with_reducible refine z_drop ?_
  | with_reducible refine z_par ?_
  | with_reducible refine z_par2 ?_
  | with_reducible refine z_tupN ?_
  | with_reducible refine z_lstN ?_
  | ((with_reducible refine' z_nt ?zl1 ?_); (case zl1 => exact Nat.le_of_ble_eq_true rfl); intro p H' hp hs he)
  | ((with_reducible refine' z_gtup ?zl1 ?zl2 ?_); (case zl1 => walk_at "up"); (case zl2 => exact rfl))
  | with_reducible refine z_bk ?_
  | with_reducible refine z_ct ?_
  | with_reducible refine z_break ?_
  | with_reducible refine z_cont ?_
  | with_reducible refine z_retN ?_
  | with_reducible refine z_nn ?_
  | with_reducible refine z_mk ?_
  | with_reducible refine z_gn ?_
  | with_reducible refine z_gcons ?_
  | with_reducible refine z_gnil ?_
  | with_reducible refine z_mt ?_
  | with_reducible refine z_mko ?_
  | with_reducible refine z_for2 ?_
  | with_reducible refine z_ownI ?_
  | ((with_reducible refine' z_lenL ?zl1 ?_); (case zl1 => walk_at "up"))
  | ((with_reducible refine' z_ixT ?zl1 ?zl2 ?_); (case zl1 => walk_at "up"); (case zl2 => exact rfl))
  | ((with_reducible refine' z_mulL ?zl1 ?zl2 ?_); (case zl1 => omega); (case zl2 => omega))
  | ((with_reducible refine' z_mulR ?zl1 ?zl2 ?_); (case zl1 => omega); (case zl2 => omega))
  | ((with_reducible refine' z_divS ?zl1 ?zl2 ?_); (case zl1 => omega); (case zl2 => omega))
  | ((with_reducible refine' z_mulW ?zl1 ?zl2 ?zl3 ?zl4 ?_); (case zl1 => omega); (case zl2 => omega); (case zl3 => omega); (case zl4 => omega))
  | ((with_reducible refine' z_divW ?zl1 ?zl2 ?_); (case zl1 => omega); (case zl2 => omega)))
local macro_rules | `(tactic| walk_at "zz") => `(tactic| repeat (walk_at "z"))
local macro_rules | `(tactic| walk_at "z") => `(tactic| with_reducible refine z_lstN ?_)
local macro_rules | `(tactic| walk_at "z") => `(tactic| with_reducible refine z_p6 ?_)
local macro_rules | `(tactic| walk_at "z") => `(tactic| with_reducible refine z_p12 ?_)
local macro_rules | `(tactic| walk_at "z") => `(tactic| with_reducible refine z_p13 ?_)
local macro_rules | `(tactic| walk_at "z") => `(tactic| with_reducible refine z_calln ?_)
local macro_rules | `(tactic| walk_at "z") => `(tactic| with_reducible refine z_xfS ?_)
local macro_rules | `(tactic| walk_at "z") => `(tactic| with_reducible refine z_lcS ?_)
local macro_rules | `(tactic| walk_at "z") => `(tactic| with_reducible refine z_lcRS ?_)
local macro_rules | `(tactic| walk_at "z") => `(tactic| with_reducible refine z_lcZS ?_)
local macro_rules | `(tactic| walk_at "z") => `(tactic| with_reducible refine z_foS ?_)
local macro_rules | `(tactic| walk_at "z") => `(tactic| with_reducible refine z_for1 ?_)
local macro_rules | `(tactic| walk_at "z") => `(tactic| with_reducible refine z_tsl ?_)
local macro_rules | `(tactic| walk_at "z") => `(tactic| with_reducible refine z_np ?_)
local macro_rules | `(tactic| walk_at "z") => `(tactic| with_reducible refine z_pt ?_)
local macro_rules | `(tactic| walk_at "z") => `(tactic| with_reducible refine z_pti ?_)
local macro_rules | `(tactic| walk_at "z") => `(tactic| with_reducible refine z_catI ?_)
local macro_rules | `(tactic| walk_at "z") => `(tactic| with_reducible refine z_isNI ?_)
local macro_rules | `(tactic| walk_at "z") => `(tactic| with_reducible refine z_isNN ?_)
local macro_rules | `(tactic| walk_at "z") => `(tactic| with_reducible refine z_notNI ?_)
local macro_rules | `(tactic| walk_at "z") => `(tactic| with_reducible refine z_notNN ?_)
local macro_rules | `(tactic| walk_at "z") => `(tactic| with_reducible refine z_gsub ?_)
local macro_rules | `(tactic| walk_at "z") => `(tactic| with_reducible refine z_isNb ?_)
local macro_rules | `(tactic| walk_at "z") => `(tactic| with_reducible refine z_notNb ?_)
local macro_rules | `(tactic| walk_at "z") => `(tactic| ((with_reducible refine' z_nlR ?zl1 ?_); (case zl1 => exact Nat.le_of_ble_eq_true rfl); intro p H' hp hs he))
local macro_rules | `(tactic| walk_at "z") => `(tactic| ((with_reducible refine' z_repR ?zl1 ?zl2 ?_); (case zl1 => omega); (case zl2 => omega)))
local macro_rules | `(tactic| walk_at "z") => `(tactic| ((with_reducible refine' z_repL ?zl1 ?zl2 ?_); (case zl1 => omega); (case zl2 => omega)))
local macro_rules | `(tactic| walk_at "z") => `(tactic| ((with_reducible refine' z_lenLst ?zl1 ?_); (case zl1 => walk_at "up")))
local macro_rules | `(tactic| walk_at "z") => `(tactic| ((with_reducible refine' z_cat ?zl1 ?zl2 ?zl3 ?_); (case zl1 => walk_at "up"); (case zl2 => walk_at "up"); (case zl3 => (simp only [List.length_map, List.length_cons, List.length_nil, List.length_append, List.length_replicate]; omega)); intro p H' hp hs he))
local macro_rules | `(tactic| walk_at "z") => `(tactic| with_reducible refine z_sfl ?_)
local macro_rules | `(tactic| walk_at "z") => `(tactic| with_reducible refine z_lcES ?_)
local macro_rules | `(tactic| walk_at "z") => `(tactic| with_reducible refine z_lcMS ?_)
local macro_rules | `(tactic| walk_at "z") => `(tactic| with_reducible refine z_foES ?_)
local macro_rules | `(tactic| walk_at "z") => `(tactic| with_reducible refine z_fo3S ?_)
local macro_rules | `(tactic| walk_at "z") => `(tactic| with_reducible refine z_sta ?_)
local macro_rules | `(tactic| walk_at "z") => `(tactic| with_reducible refine z_sta1 ?_)
local macro_rules | `(tactic| walk_at "z") => `(tactic| ((with_reducible refine' z_fldt ?zc1 ?zc2 ?zl1 ?zl2 ?_); (case zc1 => exact Lw.cl_Ratio (by assumption)); (case zc2 => exact Lw.na_Ratio_top (by assumption)); (case zl1 => exact rfl); (case zl2 => walk_at "up")))
local macro_rules | `(tactic| walk_at "z") => `(tactic| ((with_reducible refine' z_fldb ?zc1 ?zc2 ?zl1 ?zl2 ?_); (case zc1 => exact Lw.cl_Ratio (by assumption)); (case zc2 => exact Lw.na_Ratio_bottom (by assumption)); (case zl1 => exact rfl); (case zl2 => walk_at "up")))
theorem same66c {H H1 H2 : Hp} (h : Same H1 H2) (e : Same H H1) : Same H H2 := e.trans h
local macro_rules | `(tactic| walk_at "sm") => `(tactic| first
  | assumption
  | exact fun _ _ h => h
  | (refine' same66c (by assumption) ?zsm; case zsm => walk_at "sm"))
local macro_rules | `(tactic| walk_at "up") => `(tactic| first
  | assumption
  | (with_reducible refine' IsR.mono (by assumption) ?zup; case zup => walk_at "up")
  | (with_reducible refine' IsV.mono (by assumption) ?zup; case zup => walk_at "up")
  | (with_reducible refine' IsQ.mono (by assumption) ?zup; case zup => walk_at "up")
  | (with_reducible refine' Same.at (by assumption) ?zup; case zup => walk_at "up")
  | fail)
open S31 (cf)
open S30
theorem lt_cast {t u t' u' : Int} {v w : Rat} (hu : 0 < u) (hu' : 0 < u') (e : (t : Rat) = v * u) (e' : (t' : Rat) = w * u') : (t * u' < t' * u) ↔ v < w := by
  have c : (t * u' < t' * u) ↔ ((t : Rat) * u' < (t' : Rat) * u) := by
    rw [← Rat.intCast_mul, ← Rat.intCast_mul]
    exact Rat.intCast_lt_intCast.symm
  have p1 : (0 : Rat) < (u : Rat) := by exact_mod_cast hu
  have p2 : (0 : Rat) < (u' : Rat) := by exact_mod_cast hu'
  rw [c, e, e']
  constructor
  · intro h
    by_cases q : v < w
    · exact q
    · have := Rat.mul_nonneg (Rat.mul_nonneg (show 0 ≤ v - w by grind) (Rat.le_of_lt p1)) (Rat.le_of_lt p2)
      grind
  · intro h
    have := Rat.mul_pos (Rat.mul_pos (show 0 < w - v by grind) p1) p2
    grind
theorem sgn_cast {t u : Int} {v : Rat} (hu : 0 < u) (e : (t : Rat) = v * u) : (t < 0 ↔ v < 0) ∧ (0 < t ↔ 0 < v) := by
  have a := lt_cast (t := t) (u := u) (t' := 0) (u' := 1) (v := v) (w := 0) hu (by decide) e (by rw [Rat.zero_mul]; rfl)
  have b := lt_cast (t := 0) (u := 1) (t' := t) (u' := u) (v := 0) (w := v) (by decide) hu (by rw [Rat.zero_mul]; rfl) e
  rw [Int.zero_mul, Int.mul_one] at a
  rw [Int.zero_mul, Int.mul_one] at b
  exact ⟨a, b⟩
end T
set_option maxHeartbeats 4000000
namespace T
open PySem PySem.Spec PyProof.Rows L2 Z
/-! the readings' steps, as one word: walk_at "z" (one step), "zz" (as far as it goes), "up" (a fact carried here) -/
local macro_rules | `(tactic| walk_at "up") => `(tactic| first
  | assumption
  | (refine' IsR.mono (by assumption) ?zup; case zup => walk_at "up")
  | (refine' IsE.mono (by assumption) ?zup; case zup => walk_at "up")
  | (refine' Same.at (by assumption) ?zup; case zup => walk_at "up")
  | (refine' SqL.of ?zup; case zup => walk_at "up")
  | (refine' L2.Same.seq (by assumption) ?zup; case zup => walk_at "up"))
local macro_rules | `(tactic| walk_at "z") => `(tactic| first
  | ((with_reducible refine' z_var ?zvh ?_); (case zvh => exact rfl))
  | with_reducible refine z_c ?_
  | with_reducible refine z_cons ?_
  | with_reducible refine z_nil ?_
  | with_reducible refine z_op ?_
  | with_reducible refine z_nx ?_
  | with_reducible refine z_seq ?_
  | with_reducible refine z_asg ?_
  | with_reducible refine z_asgG ?_
  | with_reducible refine z_call ?_
  | with_reducible refine z_sq0 ?_
  | with_reducible refine z_sq1 ?_
  | with_reducible refine z_ifS ?_
  | with_reducible refine z_test ?_
  | with_reducible refine z_tb ?_
  | with_reducible refine z_bl ?_
  | with_reducible refine z_blI ?_
  | with_reducible refine z_ret ?_
  | with_reducible refine z_rt ?_
  | with_reducible refine z_T ?_
  | with_reducible refine z_F ?_
  | with_reducible refine z_add ?_
  | with_reducible refine z_sub ?_
  | with_reducible refine z_neg ?_
  | with_reducible refine z_un ?_
  | with_reducible refine z_eqI ?_
  | with_reducible refine z_neI ?_
  | with_reducible refine z_lt ?_
  | with_reducible refine z_le ?_
  | with_reducible refine z_gt ?_
  | with_reducible refine z_ge ?_
  | with_reducible refine z_not ?_
  | with_reducible refine z_and ?_
  | with_reducible refine z_or ?_
  | with_reducible refine z_andV ?_
  | with_reducible refine z_orV ?_
  | with_reducible refine z_notV ?_
  | with_reducible refine z_if ?_
  | with_reducible refine z_cb ?_
  | with_reducible refine z_int1 ?_
  | with_reducible refine z_intb ?_
  | with_reducible refine z_abs ?_
  | with_reducible refine z_gcd ?_
  | with_reducible refine z_isi_ii ?_
  | with_reducible refine z_isi_ib ?_
  | with_reducible refine z_next ?_
  | with_reducible refine z_drop ?_
  | with_reducible refine z_par ?_
  | with_reducible refine z_par2 ?_
  | with_reducible refine z_tupN ?_
  | with_reducible refine z_lstN ?_
  | ((with_reducible refine' z_nt ?zl1 ?_); (case zl1 => exact Nat.le_of_ble_eq_true rfl); intro p H' hp hs he)
  | ((with_reducible refine' z_gtup ?zl1 ?zl2 ?_); (case zl1 => walk_at "up"); (case zl2 => exact rfl))
  | with_reducible refine z_bk ?_
  | with_reducible refine z_ct ?_
  | with_reducible refine z_break ?_
  | with_reducible refine z_cont ?_
  | with_reducible refine z_retN ?_
  | with_reducible refine z_nn ?_
  | with_reducible refine z_mk ?_
  | with_reducible refine z_gn ?_
  | with_reducible refine z_gcons ?_
  | with_reducible refine z_gnil ?_
  | with_reducible refine z_mt ?_
  | with_reducible refine z_mko ?_
  | with_reducible refine z_for2 ?_
  | with_reducible refine z_ownI ?_
  | ((with_reducible refine' z_lenL ?zl1 ?_); (case zl1 => walk_at "up"))
  | ((with_reducible refine' z_ixT ?zl1 ?zl2 ?_); (case zl1 => walk_at "up"); (case zl2 => exact rfl))
  | ((with_reducible refine' z_mulL ?zl1 ?zl2 ?_); (case zl1 => omega); (case zl2 => omega))
  | ((with_reducible refine' z_mulR ?zl1 ?zl2 ?_); (case zl1 => omega); (case zl2 => omega))
  | ((with_reducible refine' z_divS ?zl1 ?zl2 ?_); (case zl1 => omega); (case zl2 => omega))
  | ((with_reducible refine' z_mulW ?zl1 ?zl2 ?zl3 ?zl4 ?_); (case zl1 => omega); (case zl2 => omega); (case zl3 => omega); (case zl4 => omega))
  | ((with_reducible refine' z_divW ?zl1 ?zl2 ?_); (case zl1 => omega); (case zl2 => omega)))
local macro_rules | `(tactic| walk_at "zz") => `(tactic| repeat (walk_at "z"))
local macro_rules | `(tactic| walk_at "z") => `(tactic| with_reducible refine z_lstN ?_)
local macro_rules | `(tactic| walk_at "z") => `(tactic| with_reducible refine z_p6 ?_)
local macro_rules | `(tactic| walk_at "z") => `(tactic| with_reducible refine z_p12 ?_)
local macro_rules | `(tactic| walk_at "z") => `(tactic| with_reducible refine z_p13 ?_)
local macro_rules | `(tactic| walk_at "z") => `(tactic| with_reducible refine z_calln ?_)
local macro_rules | `(tactic| walk_at "z") => `(tactic| with_reducible refine z_xfS ?_)
local macro_rules | `(tactic| walk_at "z") => `(tactic| with_reducible refine z_lcS ?_)
local macro_rules | `(tactic| walk_at "z") => `(tactic| with_reducible refine z_lcRS ?_)
local macro_rules | `(tactic| walk_at "z") => `(tactic| with_reducible refine z_lcZS ?_)
local macro_rules | `(tactic| walk_at "z") => `(tactic| with_reducible refine z_foS ?_)
local macro_rules | `(tactic| walk_at "z") => `(tactic| with_reducible refine z_for1 ?_)
local macro_rules | `(tactic| walk_at "z") => `(tactic| with_reducible refine z_tsl ?_)
local macro_rules | `(tactic| walk_at "z") => `(tactic| with_reducible refine z_np ?_)
local macro_rules | `(tactic| walk_at "z") => `(tactic| with_reducible refine z_pt ?_)
local macro_rules | `(tactic| walk_at "z") => `(tactic| with_reducible refine z_pti ?_)
local macro_rules | `(tactic| walk_at "z") => `(tactic| with_reducible refine z_catI ?_)
local macro_rules | `(tactic| walk_at "z") => `(tactic| with_reducible refine z_isNI ?_)
local macro_rules | `(tactic| walk_at "z") => `(tactic| with_reducible refine z_isNN ?_)
local macro_rules | `(tactic| walk_at "z") => `(tactic| with_reducible refine z_notNI ?_)
local macro_rules | `(tactic| walk_at "z") => `(tactic| with_reducible refine z_notNN ?_)
local macro_rules | `(tactic| walk_at "z") => `(tactic| with_reducible refine z_gsub ?_)
local macro_rules | `(tactic| walk_at "z") => `(tactic| with_reducible refine z_isNb ?_)
local macro_rules | `(tactic| walk_at "z") => `(tactic| with_reducible refine z_notNb ?_)
local macro_rules | `(tactic| walk_at "z") => `(tactic| ((with_reducible refine' z_nlR ?zl1 ?_); (case zl1 => exact Nat.le_of_ble_eq_true rfl); intro p H' hp hs he))
local macro_rules | `(tactic| walk_at "z") => `(tactic| ((with_reducible refine' z_repR ?zl1 ?zl2 ?_); (case zl1 => omega); (case zl2 => omega)))
local macro_rules | `(tactic| walk_at "z") => `(tactic| ((with_reducible refine' z_repL ?zl1 ?zl2 ?_); (case zl1 => omega); (case zl2 => omega)))
local macro_rules | `(tactic| walk_at "z") => `(tactic| ((with_reducible refine' z_lenLst ?zl1 ?_); (case zl1 => walk_at "up")))
local macro_rules | `(tactic| walk_at "z") => `(tactic| ((with_reducible refine' z_cat ?zl1 ?zl2 ?zl3 ?_); (case zl1 => walk_at "up"); (case zl2 => walk_at "up"); (case zl3 => (simp only [List.length_map, List.length_cons, List.length_nil, List.length_append, List.length_replicate]; omega)); intro p H' hp hs he))
local macro_rules | `(tactic| walk_at "z") => `(tactic| with_reducible refine z_sfl ?_)
local macro_rules | `(tactic| walk_at "z") => `(tactic| with_reducible refine z_lcES ?_)
local macro_rules | `(tactic| walk_at "z") => `(tactic| with_reducible refine z_lcMS ?_)
local macro_rules | `(tactic| walk_at "z") => `(tactic| with_reducible refine z_foES ?_)
local macro_rules | `(tactic| walk_at "z") => `(tactic| with_reducible refine z_fo3S ?_)
local macro_rules | `(tactic| walk_at "z") => `(tactic| with_reducible refine z_sta ?_)
local macro_rules | `(tactic| walk_at "z") => `(tactic| with_reducible refine z_sta1 ?_)
local macro_rules | `(tactic| walk_at "z") => `(tactic| ((with_reducible refine' z_fldt ?zc1 ?zc2 ?zl1 ?zl2 ?_); (case zc1 => exact Lw.cl_Ratio (by assumption)); (case zc2 => exact Lw.na_Ratio_top (by assumption)); (case zl1 => exact rfl); (case zl2 => walk_at "up")))
local macro_rules | `(tactic| walk_at "z") => `(tactic| ((with_reducible refine' z_fldb ?zc1 ?zc2 ?zl1 ?zl2 ?_); (case zc1 => exact Lw.cl_Ratio (by assumption)); (case zc2 => exact Lw.na_Ratio_bottom (by assumption)); (case zl1 => exact rfl); (case zl2 => walk_at "up")))
theorem same66d {H H1 H2 : Hp} (h : Same H1 H2) (e : Same H H1) : Same H H2 := e.trans h
local macro_rules | `(tactic| walk_at "sm") => `(tactic| first
  | assumption
  | exact fun _ _ h => h
  | (refine' same66d (by assumption) ?zsm; case zsm => walk_at "sm"))
local macro_rules | `(tactic| walk_at "up") => `(tactic| first
  | assumption
  | (with_reducible refine' IsR.mono (by assumption) ?zup; case zup => walk_at "up")
  | (with_reducible refine' IsV.mono (by assumption) ?zup; case zup => walk_at "up")
  | (with_reducible refine' IsQ.mono (by assumption) ?zup; case zup => walk_at "up")
  | (with_reducible refine' Same.at (by assumption) ?zup; case zup => walk_at "up")
  | fail)
open S31 (cf)
open S30
theorem u_mkP {K : Frag} {H : Hp} {Q : VK} {E : XK} {q : Addr} {ns : List Int} {o : Int} (h : H q = some (.lst (ns.map V.int))) (hl : ns.length ≤ 200) (o1 : 1 ≤ o) (o2 : Bits 8999 o) (k : ∀ x H' ls o', Same H H' → IsQ K H' x ls o' → LowT ns o ls o' → Q (.ref x) H') :
    zMk (He.ga K "Poly") (sp3 (fs_pinit K)) [] E [.ref q, .int o] H Q :=
  fun x dx hx hdx ne => ⟨_, _, _, rfl, x, dx, q, H, ns, o, rfl, rfl, rfl, rfl, hx, hdx, ne, h, hl, o1, o2, fun H' ls o' s p l => ⟨rfl, k x H' ls o' s p l⟩⟩
end T
set_option maxHeartbeats 4000000
namespace T
open PySem PySem.Spec PyProof.Rows L2 Z
/-! the readings' steps, as one word: walk_at "z" (one step), "zz" (as far as it goes), "up" (a fact carried here) -/
local macro_rules | `(tactic| walk_at "up") => `(tactic| first
  | assumption
  | (refine' IsR.mono (by assumption) ?zup; case zup => walk_at "up")
  | (refine' IsE.mono (by assumption) ?zup; case zup => walk_at "up")
  | (refine' Same.at (by assumption) ?zup; case zup => walk_at "up")
  | (refine' SqL.of ?zup; case zup => walk_at "up")
  | (refine' L2.Same.seq (by assumption) ?zup; case zup => walk_at "up"))
local macro_rules | `(tactic| walk_at "z") => `(tactic| first
  | ((with_reducible refine' z_var ?zvh ?_); (case zvh => exact rfl))
  | with_reducible refine z_c ?_
  | with_reducible refine z_cons ?_
  | with_reducible refine z_nil ?_
  | with_reducible refine z_op ?_
  | with_reducible refine z_nx ?_
  | with_reducible refine z_seq ?_
  | with_reducible refine z_asg ?_
  | with_reducible refine z_asgG ?_
  | with_reducible refine z_call ?_
  | with_reducible refine z_sq0 ?_
  | with_reducible refine z_sq1 ?_
  | with_reducible refine z_ifS ?_
  | with_reducible refine z_test ?_
  | with_reducible refine z_tb ?_
  | with_reducible refine z_bl ?_
  | with_reducible refine z_blI ?_
  | with_reducible refine z_ret ?_
  | with_reducible refine z_rt ?_
  | with_reducible refine z_T ?_
  | with_reducible refine z_F ?_
  | with_reducible refine z_add ?_
  | with_reducible refine z_sub ?_
  | with_reducible refine z_neg ?_
  | with_reducible refine z_un ?_
  | with_reducible refine z_eqI ?_
  | with_reducible refine z_neI ?_
  | with_reducible refine z_lt ?_
  | with_reducible refine z_le ?_
  | with_reducible refine z_gt ?_
  | with_reducible refine z_ge ?_
  | with_reducible refine z_not ?_
  | with_reducible refine z_and ?_
  | with_reducible refine z_or ?_
  | with_reducible refine z_andV ?_
  | with_reducible refine z_orV ?_
  | with_reducible refine z_notV ?_
  | with_reducible refine z_if ?_
  | with_reducible refine z_cb ?_
  | with_reducible refine z_int1 ?_
  | with_reducible refine z_intb ?_
  | with_reducible refine z_abs ?_
  | with_reducible refine z_gcd ?_
  | with_reducible refine z_isi_ii ?_
  | with_reducible refine z_isi_ib ?_
  | with_reducible refine z_next ?_
  | with_reducible refine z_drop ?_
  | with_reducible refine z_par ?_
  | with_reducible refine z_par2 ?_
  | with_reducible refine z_tupN ?_
  | with_reducible refine z_lstN ?_
  | ((with_reducible refine' z_nt ?zl1 ?_); (case zl1 => exact Nat.le_of_ble_eq_true rfl); intro p H' hp hs he)
  | ((with_reducible refine' z_gtup ?zl1 ?zl2 ?_); (case zl1 => walk_at "up"); (case zl2 => exact rfl))
  | with_reducible refine z_bk ?_
  | with_reducible refine z_ct ?_
  | with_reducible refine z_break ?_
  | with_reducible refine z_cont ?_
  | with_reducible refine z_retN ?_
  | with_reducible refine z_nn ?_
  | with_reducible refine z_mk ?_
  | with_reducible refine z_gn ?_
  | with_reducible refine z_gcons ?_
  | with_reducible refine z_gnil ?_
  | with_reducible refine z_mt ?_
  | with_reducible refine z_mko ?_
  | with_reducible refine z_for2 ?_
  | with_reducible refine z_ownI ?_
  | ((with_reducible refine' z_lenL ?zl1 ?_); (case zl1 => walk_at "up"))
  | ((with_reducible refine' z_ixT ?zl1 ?zl2 ?_); (case zl1 => walk_at "up"); (case zl2 => exact rfl))
  | ((with_reducible refine' z_mulL ?zl1 ?zl2 ?_); (case zl1 => omega); (case zl2 => omega))
  | ((with_reducible refine' z_mulR ?zl1 ?zl2 ?_); (case zl1 => omega); (case zl2 => omega))
  | ((with_reducible refine' z_divS ?zl1 ?zl2 ?_); (case zl1 => omega); (case zl2 => omega))
  | ((with_reducible refine' z_mulW ?zl1 ?zl2 ?zl3 ?zl4 ?_); (case zl1 => omega); (case zl2 => omega); (case zl3 => omega); (case zl4 => omega))
  | ((with_reducible refine' z_divW ?zl1 ?zl2 ?_); (case zl1 => omega); (case zl2 => omega)))
local macro_rules | `(tactic| walk_at "zz") => `(tactic| repeat (walk_at "z"))
local macro_rules | `(tactic| walk_at "z") => `(tactic| with_reducible refine z_lstN ?_)
local macro_rules | `(tactic| walk_at "z") => `(tactic| with_reducible refine z_p6 ?_)
local macro_rules | `(tactic| walk_at "z") => `(tactic| with_reducible refine z_p12 ?_)
local macro_rules | `(tactic| walk_at "z") => `(tactic| with_reducible refine z_p13 ?_)
local macro_rules | `(tactic| walk_at "z") => `(tactic| with_reducible refine z_calln ?_)
local macro_rules | `(tactic| walk_at "z") => `(tactic| with_reducible refine z_xfS ?_)
local macro_rules | `(tactic| walk_at "z") => `(tactic| with_reducible refine z_lcS ?_)
local macro_rules | `(tactic| walk_at "z") => `(tactic| with_reducible refine z_lcRS ?_)
local macro_rules | `(tactic| walk_at "z") => `(tactic| with_reducible refine z_lcZS ?_)
local macro_rules | `(tactic| walk_at "z") => `(tactic| with_reducible refine z_foS ?_)
local macro_rules | `(tactic| walk_at "z") => `(tactic| with_reducible refine z_for1 ?_)
local macro_rules | `(tactic| walk_at "z") => `(tactic| with_reducible refine z_tsl ?_)
local macro_rules | `(tactic| walk_at "z") => `(tactic| with_reducible refine z_np ?_)
local macro_rules | `(tactic| walk_at "z") => `(tactic| with_reducible refine z_pt ?_)
local macro_rules | `(tactic| walk_at "z") => `(tactic| with_reducible refine z_pti ?_)
local macro_rules | `(tactic| walk_at "z") => `(tactic| with_reducible refine z_catI ?_)
local macro_rules | `(tactic| walk_at "z") => `(tactic| with_reducible refine z_isNI ?_)
local macro_rules | `(tactic| walk_at "z") => `(tactic| with_reducible refine z_isNN ?_)
local macro_rules | `(tactic| walk_at "z") => `(tactic| with_reducible refine z_notNI ?_)
local macro_rules | `(tactic| walk_at "z") => `(tactic| with_reducible refine z_notNN ?_)
local macro_rules | `(tactic| walk_at "z") => `(tactic| with_reducible refine z_gsub ?_)
local macro_rules | `(tactic| walk_at "z") => `(tactic| with_reducible refine z_isNb ?_)
local macro_rules | `(tactic| walk_at "z") => `(tactic| with_reducible refine z_notNb ?_)
local macro_rules | `(tactic| walk_at "z") => `(tactic| ((with_reducible refine' z_nlR ?zl1 ?_); (case zl1 => exact Nat.le_of_ble_eq_true rfl); intro p H' hp hs he))
local macro_rules | `(tactic| walk_at "z") => `(tactic| ((with_reducible refine' z_repR ?zl1 ?zl2 ?_); (case zl1 => omega); (case zl2 => omega)))
local macro_rules | `(tactic| walk_at "z") => `(tactic| ((with_reducible refine' z_repL ?zl1 ?zl2 ?_); (case zl1 => omega); (case zl2 => omega)))
local macro_rules | `(tactic| walk_at "z") => `(tactic| ((with_reducible refine' z_lenLst ?zl1 ?_); (case zl1 => walk_at "up")))
local macro_rules | `(tactic| walk_at "z") => `(tactic| ((with_reducible refine' z_cat ?zl1 ?zl2 ?zl3 ?_); (case zl1 => walk_at "up"); (case zl2 => walk_at "up"); (case zl3 => (simp only [List.length_map, List.length_cons, List.length_nil, List.length_append, List.length_replicate]; omega)); intro p H' hp hs he))
local macro_rules | `(tactic| walk_at "z") => `(tactic| with_reducible refine z_sfl ?_)
local macro_rules | `(tactic| walk_at "z") => `(tactic| with_reducible refine z_lcES ?_)
local macro_rules | `(tactic| walk_at "z") => `(tactic| with_reducible refine z_lcMS ?_)
local macro_rules | `(tactic| walk_at "z") => `(tactic| with_reducible refine z_foES ?_)
local macro_rules | `(tactic| walk_at "z") => `(tactic| with_reducible refine z_fo3S ?_)
local macro_rules | `(tactic| walk_at "z") => `(tactic| with_reducible refine z_sta ?_)
local macro_rules | `(tactic| walk_at "z") => `(tactic| with_reducible refine z_sta1 ?_)
local macro_rules | `(tactic| walk_at "z") => `(tactic| with_reducible refine z_lcTS ?_)
local macro_rules | `(tactic| walk_at "z") => `(tactic| with_reducible refine z_foTS ?_)
local macro_rules | `(tactic| walk_at "z") => `(tactic| with_reducible refine z_revTS ?_)
local macro_rules | `(tactic| walk_at "z") => `(tactic| with_reducible refine z_max2 ?_)
local macro_rules | `(tactic| walk_at "z") => `(tactic| ((with_reducible refine' z_fldt ?zc1 ?zc2 ?zl1 ?zl2 ?_); (case zc1 => exact Lw.cl_Ratio (by assumption)); (case zc2 => exact Lw.na_Ratio_top (by assumption)); (case zl1 => exact rfl); (case zl2 => walk_at "up")))
local macro_rules | `(tactic| walk_at "z") => `(tactic| ((with_reducible refine' z_fldb ?zc1 ?zc2 ?zl1 ?zl2 ?_); (case zc1 => exact Lw.cl_Ratio (by assumption)); (case zc2 => exact Lw.na_Ratio_bottom (by assumption)); (case zl1 => exact rfl); (case zl2 => walk_at "up")))
theorem same66e {H H1 H2 : Hp} (h : Same H1 H2) (e : Same H H1) : Same H H2 := e.trans h
local macro_rules | `(tactic| walk_at "sm") => `(tactic| first
  | assumption
  | exact fun _ _ h => h
  | (refine' same66e (by assumption) ?zsm; case zsm => walk_at "sm"))
open S31 (cf)
open S30
theorem lkO {u v w : V} : [(("numbers" : Str), u), ("over", v), ("degree", w)].lookup ("over" : Str) = some v := lkB (by decide +kernel) lkA
theorem lkD {u v w : V} : [(("numbers" : Str), u), ("over", v), ("degree", w)].lookup ("degree" : Str) = some w := lkB (by decide +kernel) (lkB (by decide +kernel) lkA)
theorem map_at {ls : List Int} {j : Nat} {x : V} (h : (ls.map V.int)[j]? = some x) : j < ls.length ∧ V.int (cf ls j) = x := by
  rw [List.getElem?_map] at h
  obtain ⟨y, hy, e⟩ := Option.map_eq_some_iff.mp h
  refine ⟨(List.getElem?_eq_some_iff.mp hy).1, ?_⟩
  have ey : cf ls j = y := by
    unfold cf
    rw [List.getD_eq_getElem?_getD, hy]
    rfl
  rw [ey]
  exact e
theorem z_repU {i j : Int} {a b : Nat} {H : Hp} {Q : VK} (ha : Bits a i) (hb : Bits b j) (h : a + b ≤ 900000) (q : Q (.int (i * j)) H) : zRep (.int i) (.int j) H Q := z_repB (ha.up (Nat.le_succ a)) (hb.up (Nat.le_succ b)) (Nat.succ_pos a) (Nat.succ_pos b) (by omega) q
theorem cf_set {xs : List Int} {i : Nat} {v : Int} (h : i < xs.length) (k : Nat) : S31.cf (xs.set i v) k = if k = i then v else S31.cf xs k := by
  unfold S31.cf
  rw [List.getD_eq_getElem?_getD, List.getElem?_set]
  by_cases e : k = i
  · subst e
    simp [h]
  · rw [if_neg (Ne.symm e), if_neg e, List.getD_eq_getElem?_getD]
/-- a Poly of degree at most 2: a + b x + c x^2 -/
def QP (K : Frag) (H : Hp) (p : Addr) (a b c : Rat) (N : Nat) : Prop := ∃ (ls : List Int) (o : Int), IsQ K H p ls o ∧ ls.length ≤ 3 ∧ 0 < o ∧ Bits N o ∧ (∀ k, Bits N (cf ls k)) ∧ (∀ m, ls.length = m + 1 → cf ls m ≠ 0) ∧ (cf ls 0 : Rat) = a * o ∧ (cf ls 1 : Rat) = b * o ∧ (cf ls 2 : Rat) = c * o
theorem QP.mono {K : Frag} {H H' : Hp} {p : Addr} {a b c : Rat} {N : Nat} (s : Same H H') (h : QP K H p a b c N) : QP K H' p a b c N := by
  obtain ⟨ls, o, h1, h⟩ := h
  exact ⟨ls, o, h1.mono s, h⟩
theorem QP.of {K : Frag} {H : Hp} {p : Addr} {ns ls : List Int} {o o' : Int} {N : Nat} {a b c : Rat} (h : IsQ K H p ls o') (lw : LowT ns o ls o') (ho : 0 < o) (hn : ns.length ≤ 3) (b1 : Bits N o) (b2 : ∀ k, Bits N (cf ns k))
    (e0 : (cf ns 0 : Rat) = a * o) (e1 : (cf ns 1 : Rat) = b * o) (e2 : (cf ns 2 : Rat) = c * o) : QP K H p a b c N := by
  have o1 := lw.pos ho
  obtain ⟨g, g0, q1, q2⟩ := lw.ex
  have g0' := ne_cast (show g ≠ 0 by omega)
  have key : ∀ k (v : Rat), (cf ns k : Rat) = v * o → (cf ls k : Rat) = v * o' := fun k v e => by
    rw [q1, q2, Rat.intCast_mul, Rat.intCast_mul] at e
    grind
  exact ⟨ls, o', h, by have := lw.len; omega, o1, b1.le lw.over, fun k => (b2 k).le (lw.abs k), fun m hm => lw.top m hm, key 0 a e0, key 1 b e1, key 2 c e2⟩
theorem QP.up {K : Frag} {H : Hp} {p : Addr} {a b c : Rat} {N M : Nat} (h : QP K H p a b c N) (hb : N ≤ M) : QP K H p a b c M := by
  obtain ⟨ls, o, h1, h2, h3, h4, h5, h6⟩ := h
  exact ⟨ls, o, h1, h2, h3, h4.up hb, fun k => (h5 k).up hb, h6⟩
theorem QP.cast {K : Frag} {H : Hp} {p : Addr} {a b c a' b' c' : Rat} {N : Nat} (h : QP K H p a b c N) (e1 : a = a') (e2 : b = b') (e3 : c = c') : QP K H p a' b' c' N := by
  subst e1 e2 e3
  exact h
theorem u_mtQ {K : Frag} {H : Hp} {p : Addr} {ls : List Int} {o : Int} {m : Str} {R : Prop} (h : IsQ K H p ls o) (q : R) (h1 : ¬ m = "numbers" := by decide +kernel) (h2 : ¬ m = "over" := by decide +kernel) (h3 : ¬ m = "degree" := by decide +kernel) : zMt (He.ga K "Poly") m (.ref p) H R := by
  obtain ⟨dx, t, hp, _⟩ := h
  exact ⟨p, dx, _, rfl, hp, by rw [lookup_put, if_neg h1, lookup_put, if_neg h2, lookup_put, if_neg h3]; rfl, q⟩
theorem u_mtQP {K : Frag} {H : Hp} {p : Addr} {a b c : Rat} {N : Nat} {m : Str} {R : Prop} (h : QP K H p a b c N) (q : R) (h1 : ¬ m = "numbers" := by decide +kernel) (h2 : ¬ m = "over" := by decide +kernel) (h3 : ¬ m = "degree" := by decide +kernel) : zMt (He.ga K "Poly") m (.ref p) H R :=
  h.elim fun ls z => z.elim fun o y => u_mtQ y.1 q h1 h2 h3
theorem IsV.up {K : Frag} {H : Hp} {p : Addr} {v : Rat} {B C : Nat} (h : IsV K H p v B) (hb : B ≤ C) : IsV K H p v C := by
  obtain ⟨t, b, h1, h2, h3, h4, h5⟩ := h
  exact ⟨t, b, h1, h2, h3.up hb, h4.up hb, h5⟩
theorem IsV.cast {K : Frag} {H : Hp} {p : Addr} {v w : Rat} {B : Nat} (h : IsV K H p v B) (e : v = w) : IsV K H p w B := by
  subst e
  exact h
local macro_rules | `(tactic| walk_at "z") => `(tactic| ((with_reducible refine' z_fldG ?zc1 ?zc2 ?zl0 ?zl1 ?zl2 ?_); (case zc1 => exact Lw.cl_Poly (by assumption)); (case zc2 => exact Lw.na_Poly_numbers (by assumption)); (case zl0 => exact rfl); (case zl1 => walk_at "up"); (case zl2 => exact lkA)))
local macro_rules | `(tactic| walk_at "z") => `(tactic| ((with_reducible refine' z_fldG ?zc1 ?zc2 ?zl0 ?zl1 ?zl2 ?_); (case zc1 => exact Lw.cl_Poly (by assumption)); (case zc2 => exact Lw.na_Poly_over (by assumption)); (case zl0 => exact rfl); (case zl1 => walk_at "up"); (case zl2 => exact lkO)))
local macro_rules | `(tactic| walk_at "z") => `(tactic| ((with_reducible refine' z_fldG ?zc1 ?zc2 ?zl0 ?zl1 ?zl2 ?_); (case zc1 => exact Lw.cl_Poly (by assumption)); (case zc2 => exact Lw.na_Poly_degree (by assumption)); (case zl0 => exact rfl); (case zl1 => walk_at "up"); (case zl2 => exact lkD)))
local macro_rules | `(tactic| walk_at "up") => `(tactic| first
  | assumption
  | (with_reducible refine' IsR.mono (by assumption) ?zup; case zup => walk_at "up")
  | (with_reducible refine' IsV.mono (by assumption) ?zup; case zup => walk_at "up")
  | (with_reducible refine' IsQ.mono (by assumption) ?zup; case zup => walk_at "up")
  | (with_reducible refine' QP.mono (by assumption) ?zup; case zup => walk_at "up")
  | (with_reducible refine' Same.at (by assumption) ?zup; case zup => walk_at "up")
  | fail)
end T
set_option maxHeartbeats 4000000
namespace T
open PySem PySem.Spec PyProof.Rows L2 Z
/-- a field of what any expression gives -/
def zFd (K : Frag) (f : Str) (x : V) (H : Hp) (Q : VK) : Prop := ∃ a C dx fs v, x = .ref a ∧ H a = some (.ins C dx fs) ∧ Cls K C ∧ NoAttr K C f ∧ fs.lookup f = some v ∧ Q v H
theorem z_fldS {K : Frag} {ta : TE} {f : Str} {σ : L2.St} {H : Hp} {Q : VK} (q : ta σ H fun x H1 => zFd K f x H1 Q) : tFld K ta f σ H Q := q
theorem z_fdt {K : Frag} {H : Hp} {Q : VK} {p : Addr} {t b : Int} (c : Cls K (He.ga K "Ratio")) (n : NoAttr K (He.ga K "Ratio") "top") (h : IsR K H p t b) (q : Q (.int t) H) : zFd K "top" (.ref p) H Q :=
  h.elim fun dx e => ⟨p, _, dx, _, _, rfl, e, c, n, rf_top, q⟩
theorem z_fdb {K : Frag} {H : Hp} {Q : VK} {p : Addr} {t b : Int} (c : Cls K (He.ga K "Ratio")) (n : NoAttr K (He.ga K "Ratio") "bottom") (h : IsR K H p t b) (q : Q (.int b) H) : zFd K "bottom" (.ref p) H Q :=
  h.elim fun dx e => ⟨p, _, dx, _, _, rfl, e, c, n, rf_bottom, q⟩
/-! the readings' steps, as one word: walk_at "z" (one step), "zz" (as far as it goes), "up" (a fact carried here) -/
local macro_rules | `(tactic| walk_at "up") => `(tactic| first
  | assumption
  | (refine' IsR.mono (by assumption) ?zup; case zup => walk_at "up")
  | (refine' IsE.mono (by assumption) ?zup; case zup => walk_at "up")
  | (refine' Same.at (by assumption) ?zup; case zup => walk_at "up")
  | (refine' SqL.of ?zup; case zup => walk_at "up")
  | (refine' L2.Same.seq (by assumption) ?zup; case zup => walk_at "up"))
local macro_rules | `(tactic| walk_at "z") => `(tactic| first
  | ((with_reducible refine' z_var ?zvh ?_); (case zvh => exact rfl))
  | with_reducible refine z_c ?_
  | with_reducible refine z_cons ?_
  | with_reducible refine z_nil ?_
  | with_reducible refine z_op ?_
  | with_reducible refine z_nx ?_
  | with_reducible refine z_seq ?_
  | with_reducible refine z_asg ?_
  | with_reducible refine z_asgG ?_
  | with_reducible refine z_call ?_
  | with_reducible refine z_sq0 ?_
  | with_reducible refine z_sq1 ?_
  | with_reducible refine z_ifS ?_
  | with_reducible refine z_test ?_
  | with_reducible refine z_tb ?_
  | with_reducible refine z_bl ?_
  | with_reducible refine z_blI ?_
  | with_reducible refine z_ret ?_
  | with_reducible refine z_rt ?_
  | with_reducible refine z_T ?_
  | with_reducible refine z_F ?_
  | with_reducible refine z_add ?_
  | with_reducible refine z_sub ?_
  | with_reducible refine z_neg ?_
  | with_reducible refine z_un ?_
  | with_reducible refine z_eqI ?_
  | with_reducible refine z_neI ?_
  | with_reducible refine z_lt ?_
  | with_reducible refine z_le ?_
  | with_reducible refine z_gt ?_
  | with_reducible refine z_ge ?_
  | with_reducible refine z_not ?_
  | with_reducible refine z_and ?_
  | with_reducible refine z_or ?_
  | with_reducible refine z_andV ?_
  | with_reducible refine z_orV ?_
  | with_reducible refine z_notV ?_
  | with_reducible refine z_if ?_
  | with_reducible refine z_cb ?_
  | with_reducible refine z_int1 ?_
  | with_reducible refine z_intb ?_
  | with_reducible refine z_abs ?_
  | with_reducible refine z_gcd ?_
  | with_reducible refine z_isi_ii ?_
  | with_reducible refine z_isi_ib ?_
  | with_reducible refine z_next ?_
  | with_reducible refine z_drop ?_
  | with_reducible refine z_par ?_
  | with_reducible refine z_par2 ?_
  | with_reducible refine z_tupN ?_
  | with_reducible refine z_lstN ?_
  | ((with_reducible refine' z_nt ?zl1 ?_); (case zl1 => exact Nat.le_of_ble_eq_true rfl); intro p H' hp hs he)
  | ((with_reducible refine' z_gtup ?zl1 ?zl2 ?_); (case zl1 => walk_at "up"); (case zl2 => exact rfl))
  | with_reducible refine z_bk ?_
  | with_reducible refine z_ct ?_
  | with_reducible refine z_break ?_
  | with_reducible refine z_cont ?_
  | with_reducible refine z_retN ?_
  | with_reducible refine z_nn ?_
  | with_reducible refine z_mk ?_
  | with_reducible refine z_gn ?_
  | with_reducible refine z_gcons ?_
  | with_reducible refine z_gnil ?_
  | with_reducible refine z_mt ?_
  | with_reducible refine z_mko ?_
  | with_reducible refine z_for2 ?_
  | with_reducible refine z_ownI ?_
  | ((with_reducible refine' z_lenL ?zl1 ?_); (case zl1 => walk_at "up"))
  | ((with_reducible refine' z_ixT ?zl1 ?zl2 ?_); (case zl1 => walk_at "up"); (case zl2 => exact rfl))
  | ((with_reducible refine' z_mulL ?zl1 ?zl2 ?_); (case zl1 => omega); (case zl2 => omega))
  | ((with_reducible refine' z_mulR ?zl1 ?zl2 ?_); (case zl1 => omega); (case zl2 => omega))
  | ((with_reducible refine' z_divS ?zl1 ?zl2 ?_); (case zl1 => omega); (case zl2 => omega))
  | ((with_reducible refine' z_mulW ?zl1 ?zl2 ?zl3 ?zl4 ?_); (case zl1 => omega); (case zl2 => omega); (case zl3 => omega); (case zl4 => omega))
  | ((with_reducible refine' z_divW ?zl1 ?zl2 ?_); (case zl1 => omega); (case zl2 => omega)))
local macro_rules | `(tactic| walk_at "zz") => `(tactic| repeat (walk_at "z"))
local macro_rules | `(tactic| walk_at "z") => `(tactic| with_reducible refine z_lstN ?_)
local macro_rules | `(tactic| walk_at "z") => `(tactic| with_reducible refine z_p6 ?_)
local macro_rules | `(tactic| walk_at "z") => `(tactic| with_reducible refine z_p12 ?_)
local macro_rules | `(tactic| walk_at "z") => `(tactic| with_reducible refine z_p13 ?_)
local macro_rules | `(tactic| walk_at "z") => `(tactic| with_reducible refine z_calln ?_)
local macro_rules | `(tactic| walk_at "z") => `(tactic| with_reducible refine z_xfS ?_)
local macro_rules | `(tactic| walk_at "z") => `(tactic| with_reducible refine z_lcS ?_)
local macro_rules | `(tactic| walk_at "z") => `(tactic| with_reducible refine z_lcRS ?_)
local macro_rules | `(tactic| walk_at "z") => `(tactic| with_reducible refine z_lcZS ?_)
local macro_rules | `(tactic| walk_at "z") => `(tactic| with_reducible refine z_foS ?_)
local macro_rules | `(tactic| walk_at "z") => `(tactic| with_reducible refine z_for1 ?_)
local macro_rules | `(tactic| walk_at "z") => `(tactic| with_reducible refine z_tsl ?_)
local macro_rules | `(tactic| walk_at "z") => `(tactic| with_reducible refine z_np ?_)
local macro_rules | `(tactic| walk_at "z") => `(tactic| with_reducible refine z_pt ?_)
local macro_rules | `(tactic| walk_at "z") => `(tactic| with_reducible refine z_pti ?_)
local macro_rules | `(tactic| walk_at "z") => `(tactic| with_reducible refine z_catI ?_)
local macro_rules | `(tactic| walk_at "z") => `(tactic| with_reducible refine z_isNI ?_)
local macro_rules | `(tactic| walk_at "z") => `(tactic| with_reducible refine z_isNN ?_)
local macro_rules | `(tactic| walk_at "z") => `(tactic| with_reducible refine z_notNI ?_)
local macro_rules | `(tactic| walk_at "z") => `(tactic| with_reducible refine z_notNN ?_)
local macro_rules | `(tactic| walk_at "z") => `(tactic| with_reducible refine z_gsub ?_)
local macro_rules | `(tactic| walk_at "z") => `(tactic| with_reducible refine z_isNb ?_)
local macro_rules | `(tactic| walk_at "z") => `(tactic| with_reducible refine z_notNb ?_)
local macro_rules | `(tactic| walk_at "z") => `(tactic| ((with_reducible refine' z_nlR ?zl1 ?_); (case zl1 => exact Nat.le_of_ble_eq_true rfl); intro p H' hp hs he))
local macro_rules | `(tactic| walk_at "z") => `(tactic| ((with_reducible refine' z_repR ?zl1 ?zl2 ?_); (case zl1 => omega); (case zl2 => omega)))
local macro_rules | `(tactic| walk_at "z") => `(tactic| ((with_reducible refine' z_repL ?zl1 ?zl2 ?_); (case zl1 => omega); (case zl2 => omega)))
local macro_rules | `(tactic| walk_at "z") => `(tactic| ((with_reducible refine' z_lenLst ?zl1 ?_); (case zl1 => walk_at "up")))
local macro_rules | `(tactic| walk_at "z") => `(tactic| ((with_reducible refine' z_cat ?zl1 ?zl2 ?zl3 ?_); (case zl1 => walk_at "up"); (case zl2 => walk_at "up"); (case zl3 => (simp only [List.length_map, List.length_cons, List.length_nil, List.length_append, List.length_replicate]; omega)); intro p H' hp hs he))
local macro_rules | `(tactic| walk_at "z") => `(tactic| with_reducible refine z_sfl ?_)
local macro_rules | `(tactic| walk_at "z") => `(tactic| with_reducible refine z_lcES ?_)
local macro_rules | `(tactic| walk_at "z") => `(tactic| with_reducible refine z_lcMS ?_)
local macro_rules | `(tactic| walk_at "z") => `(tactic| with_reducible refine z_foES ?_)
local macro_rules | `(tactic| walk_at "z") => `(tactic| with_reducible refine z_fo3S ?_)
local macro_rules | `(tactic| walk_at "z") => `(tactic| with_reducible refine z_sta ?_)
local macro_rules | `(tactic| walk_at "z") => `(tactic| with_reducible refine z_sta1 ?_)
local macro_rules | `(tactic| walk_at "z") => `(tactic| with_reducible refine z_lcTS ?_)
local macro_rules | `(tactic| walk_at "z") => `(tactic| with_reducible refine z_foTS ?_)
local macro_rules | `(tactic| walk_at "z") => `(tactic| with_reducible refine z_revTS ?_)
local macro_rules | `(tactic| walk_at "z") => `(tactic| with_reducible refine z_max2 ?_)
local macro_rules | `(tactic| walk_at "z") => `(tactic| with_reducible refine z_fldS ?_)
local macro_rules | `(tactic| walk_at "z") => `(tactic| ((with_reducible refine' z_fdt ?zc1 ?zc2 ?zl2 ?_); (case zc1 => exact Lw.cl_Ratio (by assumption)); (case zc2 => exact Lw.na_Ratio_top (by assumption)); (case zl2 => walk_at "up")))
local macro_rules | `(tactic| walk_at "z") => `(tactic| ((with_reducible refine' z_fdb ?zc1 ?zc2 ?zl2 ?_); (case zc1 => exact Lw.cl_Ratio (by assumption)); (case zc2 => exact Lw.na_Ratio_bottom (by assumption)); (case zl2 => walk_at "up")))
local macro_rules | `(tactic| walk_at "z") => `(tactic| ((with_reducible refine' z_fldt ?zc1 ?zc2 ?zl1 ?zl2 ?_); (case zc1 => exact Lw.cl_Ratio (by assumption)); (case zc2 => exact Lw.na_Ratio_top (by assumption)); (case zl1 => exact rfl); (case zl2 => walk_at "up")))
local macro_rules | `(tactic| walk_at "z") => `(tactic| ((with_reducible refine' z_fldb ?zc1 ?zc2 ?zl1 ?zl2 ?_); (case zc1 => exact Lw.cl_Ratio (by assumption)); (case zc2 => exact Lw.na_Ratio_bottom (by assumption)); (case zl1 => exact rfl); (case zl2 => walk_at "up")))
local macro_rules | `(tactic| walk_at "z") => `(tactic| ((with_reducible refine' z_fldG ?zc1 ?zc2 ?zl0 ?zl1 ?zl2 ?_); (case zc1 => exact Lw.cl_Poly (by assumption)); (case zc2 => exact Lw.na_Poly_numbers (by assumption)); (case zl0 => exact rfl); (case zl1 => walk_at "up"); (case zl2 => exact lkA)))
local macro_rules | `(tactic| walk_at "z") => `(tactic| ((with_reducible refine' z_fldG ?zc1 ?zc2 ?zl0 ?zl1 ?zl2 ?_); (case zc1 => exact Lw.cl_Poly (by assumption)); (case zc2 => exact Lw.na_Poly_over (by assumption)); (case zl0 => exact rfl); (case zl1 => walk_at "up"); (case zl2 => exact lkO)))
local macro_rules | `(tactic| walk_at "z") => `(tactic| ((with_reducible refine' z_fldG ?zc1 ?zc2 ?zl0 ?zl1 ?zl2 ?_); (case zc1 => exact Lw.cl_Poly (by assumption)); (case zc2 => exact Lw.na_Poly_degree (by assumption)); (case zl0 => exact rfl); (case zl1 => walk_at "up"); (case zl2 => exact lkD)))
local macro_rules | `(tactic| walk_at "z") => `(tactic| ((with_reducible refine' z_glst ?zl1 ?zl2 ?_); (case zl1 => walk_at "up"); (case zl2 => exact rfl)))
theorem same66f {H H1 H2 : Hp} (h : Same H1 H2) (e : Same H H1) : Same H H2 := e.trans h
local macro_rules | `(tactic| walk_at "sm") => `(tactic| first
  | assumption
  | exact fun _ _ h => h
  | (refine' same66f (by assumption) ?zsm; case zsm => walk_at "sm"))
open S31 (cf)
open S30
theorem _root_.Z.Bits.cast {a : Nat} {i j : Int} (h : Bits a i) (e : i = j) : Bits a j := by
  subst e
  exact h
local macro_rules | `(tactic| walk_at "up") => `(tactic| first
  | assumption
  | (with_reducible refine' IsR.mono (by assumption) ?zup; case zup => walk_at "up")
  | (with_reducible refine' IsV.mono (by assumption) ?zup; case zup => walk_at "up")
  | (with_reducible refine' IsQ.mono (by assumption) ?zup; case zup => walk_at "up")
  | (with_reducible refine' QP.mono (by assumption) ?zup; case zup => walk_at "up")
  | (with_reducible refine' Same.at (by assumption) ?zup; case zup => walk_at "up")
  | fail)
end T
set_option maxHeartbeats 4000000
namespace T
open PySem PySem.Spec PyProof.Rows L2 Z
open S31 (cf)
open S30
theorem z_ixLst {K : Frag} {H : Hp} {Q : VK} {xs : List V} {p : Addr} {i : Int} {v : V} (h : H p = some (.lst xs)) (e : atI xs i = some v) (q : Q v H) : rIx K (.ref p) (.int i) H Q := z_ixL (SqL.of h) e q
theorem u_mtV {K : Frag} {H : Hp} {p : Addr} {v : Rat} {B : Nat} {m : Str} {R : Prop} (h : IsV K H p v B) (q : R) (h1 : ¬ m = "top" := by decide +kernel) (h2 : ¬ m = "bottom" := by decide +kernel) : zMt (He.ga K "Ratio") m (.ref p) H R := by
  obtain ⟨t, b, hr, _⟩ := h
  exact z_mtR hr q h1 h2
/-- a Ratio with a small bottom -/
def IsW (K : Frag) (H : Hp) (p : Addr) (v : Rat) (B : Nat) : Prop := ∃ t b : Int, IsR K H p t b ∧ 0 < b ∧ Bits B t ∧ Bits 4 b ∧ (t : Rat) = v * (b : Rat)
theorem IsW.monoN {K : Frag} {H H' : Hp} {p : Addr} {v : Rat} {B : Nat} (s : SameN H H') (h : IsW K H p v B) : IsW K H' p v B := by
  obtain ⟨t, b, h1, h⟩ := h
  exact ⟨t, b, IsR.monoN s h1, h⟩
theorem IsW.mono {K : Frag} {H H' : Hp} {p : Addr} {v : Rat} {B : Nat} (s : Same H H') (h : IsW K H p v B) : IsW K H' p v B := h.monoN (SameN.of s)
/-- three Ratios in a list or a tuple -/
def R3 (K : Frag) (H : Hp) (s : Addr) (v0 v1 v2 : Rat) (B : Nat) : Prop := ∃ x0 x1 x2 : Addr, (H s = some (.lst [.ref x0, .ref x1, .ref x2]) ∨ H s = some (.tup [.ref x0, .ref x1, .ref x2])) ∧ IsW K H x0 v0 B ∧ IsW K H x1 v1 B ∧ IsW K H x2 v2 B
theorem R3.mono {K : Frag} {H H' : Hp} {s : Addr} {v0 v1 v2 : Rat} {B : Nat} (e : Same H H') (h : R3 K H s v0 v1 v2 B) : R3 K H' s v0 v1 v2 B := by
  obtain ⟨x0, x1, x2, h, h0, h1, h2⟩ := h
  exact ⟨x0, x1, x2, h.imp (e _ _) (e _ _), h0.mono e, h1.mono e, h2.mono e⟩
theorem three_at {a b c x : V} {k : Nat} (h : [a, b, c][k]? = some x) : (k = 0 ∧ x = a) ∨ (k = 1 ∧ x = b) ∨ (k = 2 ∧ x = c) := by
  match k, h with
  | 0, h => exact .inl ⟨rfl, (Option.some.inj h).symm⟩
  | 1, h => exact .inr (.inl ⟨rfl, (Option.some.inj h).symm⟩)
  | 2, h => exact .inr (.inr ⟨rfl, (Option.some.inj h).symm⟩)
def fs_quad (K : Frag) : F1 := fun x H Q _ => ∃ (s : Addr) (v0 v1 v2 : Rat) (B : Nat), x = .ref s ∧ R3 K H s v0 v1 v2 B ∧ 1 ≤ B ∧ B ≤ 1000 ∧ ∀ z H', Same H H' → QP K H' z v0 v1 v2 (B + 12) → Q (.ref z) H'
def fs_w3 (K : Frag) : F1 := fun x H Q _ => ∃ (p : Addr) (a b c : Rat) (N : Nat), x = .ref p ∧ QP K H p a b c N ∧
  ∀ l H' (A B C o : Int), Same H H' → H' l = some (.lst [.int A, .int B, .int C]) → 0 < o → Bits N A → Bits N B → Bits N C → (A : Rat) = a * o → (B : Rat) = b * o → (C : Rat) = c * o → Q (.ref l) H'
theorem u_w3 {K : Frag} {H : Hp} {Q : VK} {E : XK} {p : Addr} {a b c : Rat} {N : Nat} (h : QP K H p a b c N)
    (k : ∀ l H' (A B C o : Int), Same H H' → H' l = some (.lst [.int A, .int B, .int C]) → 0 < o → Bits N A → Bits N B → Bits N C → (A : Rat) = a * o → (B : Rat) = b * o → (C : Rat) = c * o → Q (.ref l) H') : sp1 (fs_w3 K) [.ref p] H Q E := ⟨_, rfl, p, a, b, c, N, rfl, h, k⟩
theorem take3 {ls : List Int} (h : ls.length ≤ 3) : cutV (ls.map V.int ++ [V.int 0, V.int 0, V.int 0]) none (some 3) = [V.int (cf ls 0), V.int (cf ls 1), V.int (cf ls 2)] := by
  have e : ∀ xs : List V, cutV xs none (some 3) = xs.take 3 := fun xs => cut_hi (n := 3)
  rw [e]
  match ls, h with
  | [], _ => rfl
  | [x], _ => rfl
  | [x, y], _ => rfl
  | [x, y, z], _ => rfl
theorem rv_qv {A B C o : Int} {a b c : Rat} (ea : (A : Rat) = a * o) (eb : (B : Rat) = b * o) (ec : (C : Rat) = c * o) (k : Int) : ((S66.qv A B C k : Int) : Rat) = S66.rv a b c k * o := by
  rw [← S66.rv_int, ea, eb, ec]
  unfold S66.rv
  grind
theorem qv_neg {A B C o : Int} {a b c : Rat} (o0 : 0 < o) (ea : (A : Rat) = a * o) (eb : (B : Rat) = b * o) (ec : (C : Rat) = c * o) (k : Int) : S66.qv A B C k < 0 ↔ S66.rv a b c k < 0 := (sgn_cast o0 (rv_qv ea eb ec k)).1
def fs_fb (K : Frag) : F2 := fun x y H Q _ => ∃ (p : Addr) (a b c : Rat) (N : Nat) (n : Int), x = .ref p ∧ y = .int n ∧ QP K H p a b c N ∧ 1 ≤ n ∧ n ≤ 200 ∧
  (∀ (k : Int) H', Same H H' → 1 ≤ k → k ≤ n → S66.rv a b c k < 0 → Q (.int k) H') ∧ (∀ H', Same H H' → (∀ k : Int, 1 ≤ k → k ≤ n → 0 ≤ S66.rv a b c k) → Q .non H')
def fs_scinit (K : Frag) : F3 := fun a b c H Q _ => ∃ (x dx s : Addr) (H0 : Hp) (n : Int) (xs : List V), a = .ref x ∧ b = .int n ∧ c = .ref s ∧ H = upd (upd H0 dx (.own x)) x (.ins (He.ga K "SixClaim") dx []) ∧ H0 x = none ∧ H0 dx = none ∧ dx ≠ x ∧
  H0 s = some (.lst xs) ∧ xs.length = 3 ∧ 2 ≤ n ∧ n ≤ 200 ∧ ∀ H' t, Same H0 H' → H' x = some (.ins (He.ga K "SixClaim") dx [("letters", .int n), ("numbers", .ref t)]) → H' t = some (.tup xs) → Q .non H'
def IsSC (K : Frag) (H : Hp) (x : Addr) (n : Int) (v0 v1 v2 : Rat) (B : Nat) : Prop := ∃ dx t, H x = some (.ins (He.ga K "SixClaim") dx [("letters", .int n), ("numbers", .ref t)]) ∧ R3 K H t v0 v1 v2 B
theorem IsSC.mono {K : Frag} {H H' : Hp} {x : Addr} {n : Int} {v0 v1 v2 : Rat} {B : Nat} (e : Same H H') (h : IsSC K H x n v0 v1 v2 B) : IsSC K H' x n v0 v1 v2 B := by
  obtain ⟨dx, t, h1, h2⟩ := h
  exact ⟨dx, t, e _ _ h1, h2.mono e⟩
/-! the readings' steps, as one word: walk_at "z" (one step), "zz" (as far as it goes), "up" (a fact carried here) -/
local macro_rules | `(tactic| walk_at "up") => `(tactic| first
  | assumption
  | (refine' IsR.mono (by assumption) ?zup; case zup => walk_at "up")
  | (refine' IsE.mono (by assumption) ?zup; case zup => walk_at "up")
  | (refine' Same.at (by assumption) ?zup; case zup => walk_at "up")
  | (refine' SqL.of ?zup; case zup => walk_at "up")
  | (refine' L2.Same.seq (by assumption) ?zup; case zup => walk_at "up"))
local macro_rules | `(tactic| walk_at "z") => `(tactic| first
  | ((with_reducible refine' z_var ?zvh ?_); (case zvh => exact rfl))
  | with_reducible refine z_c ?_
  | with_reducible refine z_cons ?_
  | with_reducible refine z_nil ?_
  | with_reducible refine z_op ?_
  | with_reducible refine z_nx ?_
  | with_reducible refine z_seq ?_
  | with_reducible refine z_asg ?_
  | with_reducible refine z_asgG ?_
  | with_reducible refine z_call ?_
  | with_reducible refine z_sq0 ?_
  | with_reducible refine z_sq1 ?_
  | with_reducible refine z_ifS ?_
  | with_reducible refine z_test ?_
  | with_reducible refine z_tb ?_
  | with_reducible refine z_bl ?_
  | with_reducible refine z_blI ?_
  | with_reducible refine z_ret ?_
  | with_reducible refine z_rt ?_
  | with_reducible refine z_T ?_
  | with_reducible refine z_F ?_
  | with_reducible refine z_add ?_
  | with_reducible refine z_sub ?_
  | with_reducible refine z_neg ?_
  | with_reducible refine z_un ?_
  | with_reducible refine z_eqI ?_
  | with_reducible refine z_neI ?_
  | with_reducible refine z_lt ?_
  | with_reducible refine z_le ?_
  | with_reducible refine z_gt ?_
  | with_reducible refine z_ge ?_
  | with_reducible refine z_not ?_
  | with_reducible refine z_and ?_
  | with_reducible refine z_or ?_
  | with_reducible refine z_andV ?_
  | with_reducible refine z_orV ?_
  | with_reducible refine z_notV ?_
  | with_reducible refine z_if ?_
  | with_reducible refine z_cb ?_
  | with_reducible refine z_int1 ?_
  | with_reducible refine z_intb ?_
  | with_reducible refine z_abs ?_
  | with_reducible refine z_gcd ?_
  | with_reducible refine z_isi_ii ?_
  | with_reducible refine z_isi_ib ?_
  | with_reducible refine z_next ?_
  | with_reducible refine z_drop ?_
  | with_reducible refine z_par ?_
  | with_reducible refine z_par2 ?_
  | with_reducible refine z_tupN ?_
  | with_reducible refine z_lstN ?_
  | ((with_reducible refine' z_nt ?zl1 ?_); (case zl1 => exact Nat.le_of_ble_eq_true rfl); intro p H' hp hs he)
  | ((with_reducible refine' z_gtup ?zl1 ?zl2 ?_); (case zl1 => walk_at "up"); (case zl2 => exact rfl))
  | with_reducible refine z_bk ?_
  | with_reducible refine z_ct ?_
  | with_reducible refine z_break ?_
  | with_reducible refine z_cont ?_
  | with_reducible refine z_retN ?_
  | with_reducible refine z_nn ?_
  | with_reducible refine z_mk ?_
  | with_reducible refine z_gn ?_
  | with_reducible refine z_gcons ?_
  | with_reducible refine z_gnil ?_
  | with_reducible refine z_mt ?_
  | with_reducible refine z_mko ?_
  | with_reducible refine z_for2 ?_
  | with_reducible refine z_ownI ?_
  | ((with_reducible refine' z_lenL ?zl1 ?_); (case zl1 => walk_at "up"))
  | ((with_reducible refine' z_ixT ?zl1 ?zl2 ?_); (case zl1 => walk_at "up"); (case zl2 => exact rfl))
  | ((with_reducible refine' z_mulL ?zl1 ?zl2 ?_); (case zl1 => omega); (case zl2 => omega))
  | ((with_reducible refine' z_mulR ?zl1 ?zl2 ?_); (case zl1 => omega); (case zl2 => omega))
  | ((with_reducible refine' z_divS ?zl1 ?zl2 ?_); (case zl1 => omega); (case zl2 => omega))
  | ((with_reducible refine' z_mulW ?zl1 ?zl2 ?zl3 ?zl4 ?_); (case zl1 => omega); (case zl2 => omega); (case zl3 => omega); (case zl4 => omega))
  | ((with_reducible refine' z_divW ?zl1 ?zl2 ?_); (case zl1 => omega); (case zl2 => omega)))
local macro_rules | `(tactic| walk_at "zz") => `(tactic| repeat (walk_at "z"))
local macro_rules | `(tactic| walk_at "z") => `(tactic| with_reducible refine z_lstN ?_)
local macro_rules | `(tactic| walk_at "z") => `(tactic| with_reducible refine z_p6 ?_)
local macro_rules | `(tactic| walk_at "z") => `(tactic| with_reducible refine z_p12 ?_)
local macro_rules | `(tactic| walk_at "z") => `(tactic| with_reducible refine z_p13 ?_)
local macro_rules | `(tactic| walk_at "z") => `(tactic| with_reducible refine z_calln ?_)
local macro_rules | `(tactic| walk_at "z") => `(tactic| with_reducible refine z_xfS ?_)
local macro_rules | `(tactic| walk_at "z") => `(tactic| with_reducible refine z_lcS ?_)
local macro_rules | `(tactic| walk_at "z") => `(tactic| with_reducible refine z_lcRS ?_)
local macro_rules | `(tactic| walk_at "z") => `(tactic| with_reducible refine z_lcZS ?_)
local macro_rules | `(tactic| walk_at "z") => `(tactic| with_reducible refine z_foS ?_)
local macro_rules | `(tactic| walk_at "z") => `(tactic| with_reducible refine z_for1 ?_)
local macro_rules | `(tactic| walk_at "z") => `(tactic| with_reducible refine z_tsl ?_)
local macro_rules | `(tactic| walk_at "z") => `(tactic| with_reducible refine z_np ?_)
local macro_rules | `(tactic| walk_at "z") => `(tactic| with_reducible refine z_pt ?_)
local macro_rules | `(tactic| walk_at "z") => `(tactic| with_reducible refine z_pti ?_)
local macro_rules | `(tactic| walk_at "z") => `(tactic| with_reducible refine z_catI ?_)
local macro_rules | `(tactic| walk_at "z") => `(tactic| with_reducible refine z_isNI ?_)
local macro_rules | `(tactic| walk_at "z") => `(tactic| with_reducible refine z_isNN ?_)
local macro_rules | `(tactic| walk_at "z") => `(tactic| with_reducible refine z_notNI ?_)
local macro_rules | `(tactic| walk_at "z") => `(tactic| with_reducible refine z_notNN ?_)
local macro_rules | `(tactic| walk_at "z") => `(tactic| with_reducible refine z_gsub ?_)
local macro_rules | `(tactic| walk_at "z") => `(tactic| with_reducible refine z_isNb ?_)
local macro_rules | `(tactic| walk_at "z") => `(tactic| with_reducible refine z_notNb ?_)
local macro_rules | `(tactic| walk_at "z") => `(tactic| ((with_reducible refine' z_nlR ?zl1 ?_); (case zl1 => exact Nat.le_of_ble_eq_true rfl); intro p H' hp hs he))
local macro_rules | `(tactic| walk_at "z") => `(tactic| ((with_reducible refine' z_repR ?zl1 ?zl2 ?_); (case zl1 => omega); (case zl2 => omega)))
local macro_rules | `(tactic| walk_at "z") => `(tactic| ((with_reducible refine' z_repL ?zl1 ?zl2 ?_); (case zl1 => omega); (case zl2 => omega)))
local macro_rules | `(tactic| walk_at "z") => `(tactic| ((with_reducible refine' z_lenLst ?zl1 ?_); (case zl1 => walk_at "up")))
local macro_rules | `(tactic| walk_at "z") => `(tactic| ((with_reducible refine' z_cat ?zl1 ?zl2 ?zl3 ?_); (case zl1 => walk_at "up"); (case zl2 => walk_at "up"); (case zl3 => (simp only [List.length_map, List.length_cons, List.length_nil, List.length_append, List.length_replicate]; omega)); intro p H' hp hs he))
local macro_rules | `(tactic| walk_at "z") => `(tactic| with_reducible refine z_sfl ?_)
local macro_rules | `(tactic| walk_at "z") => `(tactic| with_reducible refine z_lcES ?_)
local macro_rules | `(tactic| walk_at "z") => `(tactic| with_reducible refine z_lcMS ?_)
local macro_rules | `(tactic| walk_at "z") => `(tactic| with_reducible refine z_foES ?_)
local macro_rules | `(tactic| walk_at "z") => `(tactic| with_reducible refine z_fo3S ?_)
local macro_rules | `(tactic| walk_at "z") => `(tactic| with_reducible refine z_sta ?_)
local macro_rules | `(tactic| walk_at "z") => `(tactic| with_reducible refine z_sta1 ?_)
local macro_rules | `(tactic| walk_at "z") => `(tactic| with_reducible refine z_lcTS ?_)
local macro_rules | `(tactic| walk_at "z") => `(tactic| with_reducible refine z_foTS ?_)
local macro_rules | `(tactic| walk_at "z") => `(tactic| with_reducible refine z_revTS ?_)
local macro_rules | `(tactic| walk_at "z") => `(tactic| with_reducible refine z_max2 ?_)
local macro_rules | `(tactic| walk_at "z") => `(tactic| with_reducible refine z_fldS ?_)
local macro_rules | `(tactic| walk_at "z") => `(tactic| ((with_reducible refine' z_fdt ?zc1 ?zc2 ?zl2 ?_); (case zc1 => exact Lw.cl_Ratio (by assumption)); (case zc2 => exact Lw.na_Ratio_top (by assumption)); (case zl2 => walk_at "up")))
local macro_rules | `(tactic| walk_at "z") => `(tactic| ((with_reducible refine' z_fdb ?zc1 ?zc2 ?zl2 ?_); (case zc1 => exact Lw.cl_Ratio (by assumption)); (case zc2 => exact Lw.na_Ratio_bottom (by assumption)); (case zl2 => walk_at "up")))
local macro_rules | `(tactic| walk_at "z") => `(tactic| ((with_reducible refine' z_fldt ?zc1 ?zc2 ?zl1 ?zl2 ?_); (case zc1 => exact Lw.cl_Ratio (by assumption)); (case zc2 => exact Lw.na_Ratio_top (by assumption)); (case zl1 => exact rfl); (case zl2 => walk_at "up")))
local macro_rules | `(tactic| walk_at "z") => `(tactic| ((with_reducible refine' z_fldb ?zc1 ?zc2 ?zl1 ?zl2 ?_); (case zc1 => exact Lw.cl_Ratio (by assumption)); (case zc2 => exact Lw.na_Ratio_bottom (by assumption)); (case zl1 => exact rfl); (case zl2 => walk_at "up")))
local macro_rules | `(tactic| walk_at "z") => `(tactic| ((with_reducible refine' z_fldG ?zc1 ?zc2 ?zl0 ?zl1 ?zl2 ?_); (case zc1 => exact Lw.cl_Poly (by assumption)); (case zc2 => exact Lw.na_Poly_numbers (by assumption)); (case zl0 => exact rfl); (case zl1 => walk_at "up"); (case zl2 => exact lkA)))
local macro_rules | `(tactic| walk_at "z") => `(tactic| ((with_reducible refine' z_fldG ?zc1 ?zc2 ?zl0 ?zl1 ?zl2 ?_); (case zc1 => exact Lw.cl_Poly (by assumption)); (case zc2 => exact Lw.na_Poly_over (by assumption)); (case zl0 => exact rfl); (case zl1 => walk_at "up"); (case zl2 => exact lkO)))
local macro_rules | `(tactic| walk_at "z") => `(tactic| ((with_reducible refine' z_fldG ?zc1 ?zc2 ?zl0 ?zl1 ?zl2 ?_); (case zc1 => exact Lw.cl_Poly (by assumption)); (case zc2 => exact Lw.na_Poly_degree (by assumption)); (case zl0 => exact rfl); (case zl1 => walk_at "up"); (case zl2 => exact lkD)))
local macro_rules | `(tactic| walk_at "z") => `(tactic| ((with_reducible refine' z_glst ?zl1 ?zl2 ?_); (case zl1 => walk_at "up"); (case zl2 => exact rfl)))
local macro_rules | `(tactic| walk_at "z") => `(tactic| ((with_reducible refine' z_ixLst ?zl1 ?zl2 ?_); (case zl1 => walk_at "up"); (case zl2 => exact rfl)))
local macro_rules | `(tactic| walk_at "z") => `(tactic| ((with_reducible refine' u_mtV ?zl1 ?_); (case zl1 => walk_at "up")))
local macro_rules | `(tactic| walk_at "z") => `(tactic| ((with_reducible refine' u_mtQP ?zl1 ?_); (case zl1 => walk_at "up")))
theorem same66g {H H1 H2 : Hp} (h : Same H1 H2) (e : Same H H1) : Same H H2 := e.trans h
local macro_rules | `(tactic| walk_at "sm") => `(tactic| first
  | assumption
  | exact fun _ _ h => h
  | (refine' same66g (by assumption) ?zsm; case zsm => walk_at "sm"))
local macro_rules | `(tactic| walk_at "up") => `(tactic| first
  | assumption
  | (with_reducible refine' IsR.mono (by assumption) ?zup; case zup => walk_at "up")
  | (with_reducible refine' IsV.mono (by assumption) ?zup; case zup => walk_at "up")
  | (with_reducible refine' IsQ.mono (by assumption) ?zup; case zup => walk_at "up")
  | (with_reducible refine' QP.mono (by assumption) ?zup; case zup => walk_at "up")
  | (with_reducible refine' R3.mono (by assumption) ?zup; case zup => walk_at "up")
  | (with_reducible refine' Same.at (by assumption) ?zup; case zup => walk_at "up")
  | fail)
section
variable {P : Program} {w : World} {K : Frag} {mg : Str → Option Value} {base : Heap}
theorem ok_quadratic_of (L : Lw K mg) {fd : FuncData} (F : FunD K "quadratic_of" "quadratic_of" (defArgs s_quadratic_of) (defBody s_quadratic_of) (defScope s_quadratic_of) (df_quadratic_of.dvs K) (df_quadratic_of.kws K) (He.fAd K ("quadratic_of", none)) fd) : FnOk P w K mg base (L2N.CX P w) 6 (He.fAd K ("quadratic_of", none)) fd (["numbers"] : List Str) (sp1 (fs_quad K)) := by
  refine FunD.ok F sc_quadratic_of len1 (fun cdv A outer s H vs Q E hr h => ?_)
  obtain ⟨a, rfl, h⟩ := h
  refine ⟨_, (pss_cons (ps_set (i := 1) sc_quadratic_of.nd rfl (by first | exact Or.inl rfl | exact Or.inr rfl) (pe_callBfun cr_lcm rfl L.v_lcm (pa_cons (pe_callBfun cr_lcm rfl L.v_lcm (pa_cons (pe_fld (pe_ix (ix_seqK (K := K) rfl) (pv 0) pe_int (fun _ _ => rfl)) rfl) (pa_cons (pe_fld (pe_ix (ix_seqK (K := K) rfl) (pv 0) pe_int (fun _ _ => rfl)) rfl) pa_nil))) (pa_cons (pe_fld (pe_ix (ix_seqK (K := K) rfl) (pv 0) pe_int (fun _ _ => rfl)) rfl) pa_nil))))
    (pss_one (ps_ret (pe_mk (c_PolyD_initD (K := K) L) hr (by decide) (L2N.takes_of rfl rfl rfl rfl) (pa_cons (pe_lc (own := [("number", 2)]) (g := (gName 2)) (tt := tYes) rfl sc_quadratic_of.nd (pi_or (pi_listK (K := K) rfl (pv 0)) (pi_tupK (K := K) rfl (pv 0))) (blkOk_by (N := ["numbers", "over", "number"]) (sc := defScope s_quadratic_of) (by decide +kernel)) (fun _ _ _ _ _ => pg_name (i := 2) sc_quadratic_of.nd rfl (Or.inl rfl)) (fun _ _ _ _ _ => pts_nil) (fun _ _ _ _ _ => (pe_op o_rep (pe_fldK (K := K) rfl (pv 2) rfl) (pe_op o_div (pv 1) (pe_fldK (K := K) rfl (pv 2) rfl))))) (pa_cons (pv 1) pa_nil)))))), ?_⟩
  obtain ⟨s, v0, v1, v2, B, rfl, ⟨x0, x1, x2, hs, ⟨t0, u0, h0, u00, bt0, bu0, e0⟩, ⟨t1, u1, h1, u10, bt1, bu1, e1⟩, ⟨t2, u2, h2, u20, bt2, bu2, e2⟩⟩, hB1, hB, k⟩ := h
  rcases hs with hs | hs
  · walk_at "zz"
    refine z_lcm bu0 bu1 (by decide) (by decide) ?_
    obtain ⟨l0, l1, l2, l3⟩ := lcm_facts u00 u10
    have l3 := l3 4 4 bu0 bu1
    generalize ((Nat.lcm u0.natAbs u1.natAbs : Nat) : Int) = L1 at *
    walk_at "zz"
    refine z_lcm l3 bu2 (by decide) (by decide) ?_
    obtain ⟨m0, m1, m2, m3⟩ := lcm_facts l0 u20
    have m3 := m3 (4 + 4) 4 l3 bu2
    have d0 := Int.dvd_trans l1 m1
    have d1 := Int.dvd_trans l2 m1
    generalize ((Nat.lcm L1.natAbs u2.natAbs : Nat) : Int) = L2 at *
    walk_at "zz"
    refine z_lcL1 ?_
    walk_at "zz"
    refine z_lcVF (fun j => V.int (cf [t0 * (L2 / u0), t1 * (L2 / u1), t2 * (L2 / u2)] j)) hs (Nat.le_of_ble_eq_true rfl) (fun j x H2 N2 hx s2 cc => ⟨rfl, ?_⟩) (fun D HD hD sD hlD => ?_)
    · rcases three_at hx with ⟨rfl, rfl⟩ | ⟨rfl, rfl⟩ | ⟨rfl, rfl⟩
      · walk_at "zz"
        refine z_div u00 bu0 (by decide) (by decide) ?_
        refine z_repU bt0 (m3.div) (by omega) ?_
        exact cc _ (fun _ _ h => h)
      · walk_at "zz"
        refine z_div u10 bu1 (by decide) (by decide) ?_
        refine z_repU bt1 (m3.div) (by omega) ?_
        exact cc _ (fun _ _ h => h)
      · walk_at "zz"
        refine z_div u20 bu2 (by decide) (by decide) ?_
        refine z_repU bt2 (m3.div) (by omega) ?_
        exact cc _ (fun _ _ h => h)
    have hlD' : HD D = some (.lst ([t0 * (L2 / u0), t1 * (L2 / u1), t2 * (L2 / u2)].map V.int)) := hlD
    walk_at "zz"
    refine u_mkP hlD' (Nat.le_of_ble_eq_true rfl) (by omega) (m3.up (by omega)) (fun z H3 ls o s3 hz lw => ?_)
    have key : ∀ {t u : Int} {v : Rat}, u ∣ L2 → (t : Rat) = v * u → ((t * (L2 / u) : Int) : Rat) = v * L2 := fun {t u v} d e => by
      have q : ((L2 / u : Int) : Rat) * (u : Rat) = (L2 : Rat) := by rw [← Rat.intCast_mul, Int.ediv_mul_cancel d]
      rw [Rat.intCast_mul, e, ← q]
      grind
    refine k z H3 (sD.trans s3) (QP.of hz lw m0 (Nat.le_of_ble_eq_true rfl) (m3.up (by omega)) (fun k => ?_) (key d0 e0) (key d1 e1) (key m2 e2))
    match k with
    | 0 => exact Bits.up (bt0.mul m3.div) (by omega)
    | 1 => exact Bits.up (bt1.mul m3.div) (by omega)
    | 2 => exact Bits.up (bt2.mul m3.div) (by omega)
    | k + 3 =>
      rw [S31.cf_out (by show 3 ≤ k + 3; omega)]
      exact Bits.zero
  · walk_at "zz"
    refine z_lcm bu0 bu1 (by decide) (by decide) ?_
    obtain ⟨l0, l1, l2, l3⟩ := lcm_facts u00 u10
    have l3 := l3 4 4 bu0 bu1
    generalize ((Nat.lcm u0.natAbs u1.natAbs : Nat) : Int) = L1 at *
    walk_at "zz"
    refine z_lcm l3 bu2 (by decide) (by decide) ?_
    obtain ⟨m0, m1, m2, m3⟩ := lcm_facts l0 u20
    have m3 := m3 (4 + 4) 4 l3 bu2
    have d0 := Int.dvd_trans l1 m1
    have d1 := Int.dvd_trans l2 m1
    generalize ((Nat.lcm L1.natAbs u2.natAbs : Nat) : Int) = L2 at *
    walk_at "zz"
    refine z_lcR1 ?_
    walk_at "zz"
    refine z_lcTF (fun j => V.int (cf [t0 * (L2 / u0), t1 * (L2 / u1), t2 * (L2 / u2)] j)) hs (Nat.le_of_ble_eq_true rfl) (fun j x H2 N2 hx s2 cc => ⟨rfl, ?_⟩) (fun D HD hD sD hlD => ?_)
    · rcases three_at hx with ⟨rfl, rfl⟩ | ⟨rfl, rfl⟩ | ⟨rfl, rfl⟩
      · walk_at "zz"
        refine z_div u00 bu0 (by decide) (by decide) ?_
        refine z_repU bt0 (m3.div) (by omega) ?_
        exact cc _ (fun _ _ h => h)
      · walk_at "zz"
        refine z_div u10 bu1 (by decide) (by decide) ?_
        refine z_repU bt1 (m3.div) (by omega) ?_
        exact cc _ (fun _ _ h => h)
      · walk_at "zz"
        refine z_div u20 bu2 (by decide) (by decide) ?_
        refine z_repU bt2 (m3.div) (by omega) ?_
        exact cc _ (fun _ _ h => h)
    have hlD' : HD D = some (.lst ([t0 * (L2 / u0), t1 * (L2 / u1), t2 * (L2 / u2)].map V.int)) := hlD
    walk_at "zz"
    refine u_mkP hlD' (Nat.le_of_ble_eq_true rfl) (by omega) (m3.up (by omega)) (fun z H3 ls o s3 hz lw => ?_)
    have key : ∀ {t u : Int} {v : Rat}, u ∣ L2 → (t : Rat) = v * u → ((t * (L2 / u) : Int) : Rat) = v * L2 := fun {t u v} d e => by
      have q : ((L2 / u : Int) : Rat) * (u : Rat) = (L2 : Rat) := by rw [← Rat.intCast_mul, Int.ediv_mul_cancel d]
      rw [Rat.intCast_mul, e, ← q]
      grind
    refine k z H3 (sD.trans s3) (QP.of hz lw m0 (Nat.le_of_ble_eq_true rfl) (m3.up (by omega)) (fun k => ?_) (key d0 e0) (key d1 e1) (key m2 e2))
    match k with
    | 0 => exact Bits.up (bt0.mul m3.div) (by omega)
    | 1 => exact Bits.up (bt1.mul m3.div) (by omega)
    | 2 => exact Bits.up (bt2.mul m3.div) (by omega)
    | k + 3 =>
      rw [S31.cf_out (by show 3 ≤ k + 3; omega)]
      exact Bits.zero
theorem c_quadratic_of (L : Lw K mg) : Cal P w K mg base 6 "quadratic_of" (sp1 (fs_quad K)) [] := by
  obtain ⟨fd, F⟩ := L.d_quadratic_of
  exact ⟨⟨_, fd, ["numbers"], [], ok_quadratic_of L F, L.g_quadratic_of, F.kp, F.bindsN (fun _ _ _ _ _ _ us hl => match us, hl with | [_], _ => rfl), .nil⟩⟩
theorem ok_whole_three (L : Lw K mg) {fd : FuncData} (F : FunD K "whole_three" "whole_three" (defArgs s_whole_three) (defBody s_whole_three) (defScope s_whole_three) (df_whole_three.dvs K) (df_whole_three.kws K) (He.fAd K ("whole_three", none)) fd) : FnOk P w K mg base (L2N.CX P w) 1 (He.fAd K ("whole_three", none)) fd (["q"] : List Str) (sp1 (fs_w3 K)) := by
  refine FunD.ok F sc_whole_three len1 (fun cdv A outer s H vs Q E hr h => ?_)
  obtain ⟨a, rfl, h⟩ := h
  refine ⟨_, (pss_one (ps_ret (pe_slice (slK rSlL (K := K) rfl sl_list) (pe_op o_cat (pe_callTy (callK rList1 (K := K) rfl o_list1) (by rfl) L.f_list (by decide +kernel) (pa_cons (pe_fld (pv 0) rfl) pa_nil)) (pe_lst (pa_cons pe_int (pa_cons pe_int (pa_cons pe_int pa_nil))))) po_none (po_some pe_int)))), ?_⟩
  obtain ⟨p, a, b, c, N, rfl, ⟨ls, o, ⟨dx, tu, hp, htu⟩, hl, o0, bo, bl, ht, ea, eb, ec⟩, k⟩ := h
  walk_at "zz"
  refine z_listT htu (fun q H1 hq s1 e1 => ?_)
  walk_at "zz"
  refine z_sll (by assumption) (fun q2 H2 hq2 s2 e2 => ?_)
  rw [take3 hl] at e2
  exact k q2 H2 _ _ _ o (by walk_at "sm") e2 o0 (bl 0) (bl 1) (bl 2) ea eb ec
theorem c_whole_three (L : Lw K mg) : Cal P w K mg base 1 "whole_three" (sp1 (fs_w3 K)) [] := by
  obtain ⟨fd, F⟩ := L.d_whole_three
  exact ⟨⟨_, fd, ["q"], [], ok_whole_three L F, L.g_whole_three, F.kp, F.bindsN (fun _ _ _ _ _ _ us hl => match us, hl with | [_], _ => rfl), .nil⟩⟩
theorem ok_first_below (L : Lw K mg) {fd : FuncData} (F : FunD K "first_below" "first_below" (defArgs s_first_below) (defBody s_first_below) (defScope s_first_below) (df_first_below.dvs K) (df_first_below.kws K) (He.fAd K ("first_below", none)) fd) : FnOk P w K mg base (L2N.CX P w) 2 (He.fAd K ("first_below", none)) fd (["q", "letters"] : List Str) (sp2 (fs_fb K)) := by
  refine FunD.ok F sc_first_below len2 (fun cdv A outer s H vs Q E hr h => ?_)
  obtain ⟨a, b, rfl, h⟩ := h
  refine ⟨_, (pss_cons (ps_asg (pe_c (c_whole_three (K := K) L) hr (by decide) (L2N.takes_of rfl rfl rfl rfl) (pa_cons (pv 0) pa_nil)) (pg_lst (by rfl) (pgs_cons (pg_name (i := 2) sc_first_below.nd rfl (by first | exact Or.inl rfl | exact Or.inr rfl)) (pgs_cons (pg_name (i := 3) sc_first_below.nd rfl (by first | exact Or.inl rfl | exact Or.inr rfl)) (pgs_cons (pg_name (i := 4) sc_first_below.nd rfl (by first | exact Or.inl rfl | exact Or.inr rfl)) pgs_nil)))))
    (pss_cons (ps_for (passes_of rfl) rfl (pi_range2 (by rfl) L.f_range (pa_cons pe_int (pa_cons (pe_op o_cat (pv 1) pe_int) pa_nil))) (pg_name (i := 5) sc_first_below.nd rfl (by first | exact Or.inl rfl | exact Or.inr rfl)) (pss_one (ps_if (pt_cmpR o_lt (pe_op o_cat (pv 2) (pe_op o_rep (pv 5) (pe_op o_cat (pv 3) (pe_op o_rep (pv 5) (pv 4))))) pe_int (nomark _)) (pss_one (ps_ret (pv 5))) pss_nil)))
    (pss_one (ps_ret pe_non)))), ?_⟩
  obtain ⟨p, a, b, c, N, n, rfl, rfl, hq, n1, n2, k1, k2⟩ := h
  walk_at "zz"
  refine u_w3 hq (fun l H1 A B C o s1 hl o0 bA bB bC ea eb ec => ?_)
  walk_at "zz"
  refine z_rg ⟨by omega, fun x σ' H' => ∃ v5 : Option V, σ' = [some (.ref p), some (.int n), some (.int A), some (.int B), some (.int C), v5] ∧ H' = H1 ∧ ∀ j, 1 ≤ j → j < x → ¬ S66.qv A B C j < 0, ⟨_, rfl, rfl, fun j h1 h2 => by omega⟩, ?_, ?_⟩
  · rintro x σ' H' x1 x2 ⟨v5, rfl, rfl, hj⟩
    walk_at "zz"
    refine z_d2 (fun cc => ?_) (fun cc => ?_)
    · walk_at "zz"
      exact k1 x _ s1 x1 (by omega) ((qv_neg o0 ea eb ec x).mp cc)
    · walk_at "zz"
      refine ⟨_, rfl, rfl, fun j h1 h2 => ?_⟩
      by_cases e : j = x
      · rw [e]
        exact cc
      · exact hj j h1 (by omega)
  · rintro x σ' H' x1 x2 x3 ⟨v5, rfl, rfl, hj⟩
    have ex := x3 (by omega)
    walk_at "zz"
    refine k2 _ s1 (fun k h1 h2 => ?_)
    have := mt (qv_neg o0 ea eb ec k).mpr (hj k h1 (by omega))
    exact Rat.not_lt.mp this
theorem c_first_below (L : Lw K mg) : Cal P w K mg base 2 "first_below" (sp2 (fs_fb K)) [] := by
  obtain ⟨fd, F⟩ := L.d_first_below
  exact ⟨⟨_, fd, ["q", "letters"], [], ok_first_below L F, L.g_first_below, F.kp, F.bindsN (fun _ _ _ _ _ _ us hl => match us, hl with | [_, _], _ => rfl), .nil⟩⟩
end
end T
set_option maxHeartbeats 4000000
namespace T
open PySem PySem.Spec PyProof.Rows L2 Z
open S31 (cf)
open S30
theorem z_oaI {r : R2} {i j : Int} {H : Hp} {Q : VK} (q : Q (.int (i + j)) H) : rOr zCat r (.int i) (.int j) H Q := .inl (z_catI q)
theorem z_osI {r : R2} {i j : Int} {H : Hp} {Q : VK} (q : Q (.int (i - j)) H) : rOr zSub r (.int i) (.int j) H Q := .inl (z_sub q)
/-! the readings' steps, as one word: walk_at "z" (one step), "zz" (as far as it goes), "up" (a fact carried here) -/
local macro_rules | `(tactic| walk_at "up") => `(tactic| first
  | assumption
  | (refine' IsR.mono (by assumption) ?zup; case zup => walk_at "up")
  | (refine' IsE.mono (by assumption) ?zup; case zup => walk_at "up")
  | (refine' Same.at (by assumption) ?zup; case zup => walk_at "up")
  | (refine' SqL.of ?zup; case zup => walk_at "up")
  | (refine' L2.Same.seq (by assumption) ?zup; case zup => walk_at "up"))
local macro_rules | `(tactic| walk_at "z") => `(tactic| first
  | ((with_reducible refine' z_var ?zvh ?_); (case zvh => exact rfl))
  | with_reducible refine z_c ?_
  | with_reducible refine z_cons ?_
  | with_reducible refine z_nil ?_
  | with_reducible refine z_op ?_
  | with_reducible refine z_nx ?_
  | with_reducible refine z_seq ?_
  | with_reducible refine z_asg ?_
  | with_reducible refine z_asgG ?_
  | with_reducible refine z_call ?_
  | with_reducible refine z_sq0 ?_
  | with_reducible refine z_sq1 ?_
  | with_reducible refine z_ifS ?_
  | with_reducible refine z_test ?_
  | with_reducible refine z_tb ?_
  | with_reducible refine z_bl ?_
  | with_reducible refine z_blI ?_
  | with_reducible refine z_ret ?_
  | with_reducible refine z_rt ?_
  | with_reducible refine z_T ?_
  | with_reducible refine z_F ?_
  | with_reducible refine z_add ?_
  | with_reducible refine z_sub ?_
  | with_reducible refine z_neg ?_
  | with_reducible refine z_un ?_
  | with_reducible refine z_eqI ?_
  | with_reducible refine z_neI ?_
  | with_reducible refine z_lt ?_
  | with_reducible refine z_le ?_
  | with_reducible refine z_gt ?_
  | with_reducible refine z_ge ?_
  | with_reducible refine z_not ?_
  | with_reducible refine z_and ?_
  | with_reducible refine z_or ?_
  | with_reducible refine z_andV ?_
  | with_reducible refine z_orV ?_
  | with_reducible refine z_notV ?_
  | with_reducible refine z_if ?_
  | with_reducible refine z_cb ?_
  | with_reducible refine z_int1 ?_
  | with_reducible refine z_intb ?_
  | with_reducible refine z_abs ?_
  | with_reducible refine z_gcd ?_
  | with_reducible refine z_isi_ii ?_
  | with_reducible refine z_isi_ib ?_
  | with_reducible refine z_next ?_
  | with_reducible refine z_drop ?_
  | with_reducible refine z_par ?_
  | with_reducible refine z_par2 ?_
  | with_reducible refine z_tupN ?_
  | with_reducible refine z_lstN ?_
  | ((with_reducible refine' z_nt ?zl1 ?_); (case zl1 => exact Nat.le_of_ble_eq_true rfl); intro p H' hp hs he)
  | ((with_reducible refine' z_gtup ?zl1 ?zl2 ?_); (case zl1 => walk_at "up"); (case zl2 => exact rfl))
  | with_reducible refine z_bk ?_
  | with_reducible refine z_ct ?_
  | with_reducible refine z_break ?_
  | with_reducible refine z_cont ?_
  | with_reducible refine z_retN ?_
  | with_reducible refine z_nn ?_
  | with_reducible refine z_mk ?_
  | with_reducible refine z_gn ?_
  | with_reducible refine z_gcons ?_
  | with_reducible refine z_gnil ?_
  | with_reducible refine z_mt ?_
  | with_reducible refine z_mko ?_
  | with_reducible refine z_for2 ?_
  | with_reducible refine z_ownI ?_
  | ((with_reducible refine' z_lenL ?zl1 ?_); (case zl1 => walk_at "up"))
  | ((with_reducible refine' z_ixT ?zl1 ?zl2 ?_); (case zl1 => walk_at "up"); (case zl2 => exact rfl))
  | ((with_reducible refine' z_mulL ?zl1 ?zl2 ?_); (case zl1 => omega); (case zl2 => omega))
  | ((with_reducible refine' z_mulR ?zl1 ?zl2 ?_); (case zl1 => omega); (case zl2 => omega))
  | ((with_reducible refine' z_divS ?zl1 ?zl2 ?_); (case zl1 => omega); (case zl2 => omega))
  | ((with_reducible refine' z_mulW ?zl1 ?zl2 ?zl3 ?zl4 ?_); (case zl1 => omega); (case zl2 => omega); (case zl3 => omega); (case zl4 => omega))
  | ((with_reducible refine' z_divW ?zl1 ?zl2 ?_); (case zl1 => omega); (case zl2 => omega)))
local macro_rules | `(tactic| walk_at "zz") => `(tactic| repeat (walk_at "z"))
local macro_rules | `(tactic| walk_at "z") => `(tactic| with_reducible refine z_lstN ?_)
local macro_rules | `(tactic| walk_at "z") => `(tactic| with_reducible refine z_p6 ?_)
local macro_rules | `(tactic| walk_at "z") => `(tactic| with_reducible refine z_p12 ?_)
local macro_rules | `(tactic| walk_at "z") => `(tactic| with_reducible refine z_p13 ?_)
local macro_rules | `(tactic| walk_at "z") => `(tactic| with_reducible refine z_calln ?_)
local macro_rules | `(tactic| walk_at "z") => `(tactic| with_reducible refine z_xfS ?_)
local macro_rules | `(tactic| walk_at "z") => `(tactic| with_reducible refine z_lcS ?_)
local macro_rules | `(tactic| walk_at "z") => `(tactic| with_reducible refine z_lcRS ?_)
local macro_rules | `(tactic| walk_at "z") => `(tactic| with_reducible refine z_lcZS ?_)
local macro_rules | `(tactic| walk_at "z") => `(tactic| with_reducible refine z_foS ?_)
local macro_rules | `(tactic| walk_at "z") => `(tactic| with_reducible refine z_for1 ?_)
local macro_rules | `(tactic| walk_at "z") => `(tactic| with_reducible refine z_tsl ?_)
local macro_rules | `(tactic| walk_at "z") => `(tactic| with_reducible refine z_np ?_)
local macro_rules | `(tactic| walk_at "z") => `(tactic| with_reducible refine z_pt ?_)
local macro_rules | `(tactic| walk_at "z") => `(tactic| with_reducible refine z_pti ?_)
local macro_rules | `(tactic| walk_at "z") => `(tactic| with_reducible refine z_catI ?_)
local macro_rules | `(tactic| walk_at "z") => `(tactic| with_reducible refine z_isNI ?_)
local macro_rules | `(tactic| walk_at "z") => `(tactic| with_reducible refine z_isNN ?_)
local macro_rules | `(tactic| walk_at "z") => `(tactic| with_reducible refine z_notNI ?_)
local macro_rules | `(tactic| walk_at "z") => `(tactic| with_reducible refine z_notNN ?_)
local macro_rules | `(tactic| walk_at "z") => `(tactic| with_reducible refine z_gsub ?_)
local macro_rules | `(tactic| walk_at "z") => `(tactic| with_reducible refine z_isNb ?_)
local macro_rules | `(tactic| walk_at "z") => `(tactic| with_reducible refine z_notNb ?_)
local macro_rules | `(tactic| walk_at "z") => `(tactic| ((with_reducible refine' z_nlR ?zl1 ?_); (case zl1 => exact Nat.le_of_ble_eq_true rfl); intro p H' hp hs he))
local macro_rules | `(tactic| walk_at "z") => `(tactic| ((with_reducible refine' z_repR ?zl1 ?zl2 ?_); (case zl1 => omega); (case zl2 => omega)))
local macro_rules | `(tactic| walk_at "z") => `(tactic| ((with_reducible refine' z_repL ?zl1 ?zl2 ?_); (case zl1 => omega); (case zl2 => omega)))
local macro_rules | `(tactic| walk_at "z") => `(tactic| ((with_reducible refine' z_lenLst ?zl1 ?_); (case zl1 => walk_at "up")))
local macro_rules | `(tactic| walk_at "z") => `(tactic| ((with_reducible refine' z_cat ?zl1 ?zl2 ?zl3 ?_); (case zl1 => walk_at "up"); (case zl2 => walk_at "up"); (case zl3 => (simp only [List.length_map, List.length_cons, List.length_nil, List.length_append, List.length_replicate]; omega)); intro p H' hp hs he))
local macro_rules | `(tactic| walk_at "z") => `(tactic| with_reducible refine z_sfl ?_)
local macro_rules | `(tactic| walk_at "z") => `(tactic| with_reducible refine z_lcES ?_)
local macro_rules | `(tactic| walk_at "z") => `(tactic| with_reducible refine z_lcMS ?_)
local macro_rules | `(tactic| walk_at "z") => `(tactic| with_reducible refine z_foES ?_)
local macro_rules | `(tactic| walk_at "z") => `(tactic| with_reducible refine z_fo3S ?_)
local macro_rules | `(tactic| walk_at "z") => `(tactic| with_reducible refine z_sta ?_)
local macro_rules | `(tactic| walk_at "z") => `(tactic| with_reducible refine z_sta1 ?_)
local macro_rules | `(tactic| walk_at "z") => `(tactic| with_reducible refine z_lcTS ?_)
local macro_rules | `(tactic| walk_at "z") => `(tactic| with_reducible refine z_foTS ?_)
local macro_rules | `(tactic| walk_at "z") => `(tactic| with_reducible refine z_revTS ?_)
local macro_rules | `(tactic| walk_at "z") => `(tactic| with_reducible refine z_max2 ?_)
local macro_rules | `(tactic| walk_at "z") => `(tactic| with_reducible refine z_fldS ?_)
local macro_rules | `(tactic| walk_at "z") => `(tactic| ((with_reducible refine' z_fdt ?zc1 ?zc2 ?zl2 ?_); (case zc1 => exact Lw.cl_Ratio (by assumption)); (case zc2 => exact Lw.na_Ratio_top (by assumption)); (case zl2 => walk_at "up")))
local macro_rules | `(tactic| walk_at "z") => `(tactic| ((with_reducible refine' z_fdb ?zc1 ?zc2 ?zl2 ?_); (case zc1 => exact Lw.cl_Ratio (by assumption)); (case zc2 => exact Lw.na_Ratio_bottom (by assumption)); (case zl2 => walk_at "up")))
local macro_rules | `(tactic| walk_at "z") => `(tactic| ((with_reducible refine' z_fldt ?zc1 ?zc2 ?zl1 ?zl2 ?_); (case zc1 => exact Lw.cl_Ratio (by assumption)); (case zc2 => exact Lw.na_Ratio_top (by assumption)); (case zl1 => exact rfl); (case zl2 => walk_at "up")))
local macro_rules | `(tactic| walk_at "z") => `(tactic| ((with_reducible refine' z_fldb ?zc1 ?zc2 ?zl1 ?zl2 ?_); (case zc1 => exact Lw.cl_Ratio (by assumption)); (case zc2 => exact Lw.na_Ratio_bottom (by assumption)); (case zl1 => exact rfl); (case zl2 => walk_at "up")))
local macro_rules | `(tactic| walk_at "z") => `(tactic| ((with_reducible refine' z_fldG ?zc1 ?zc2 ?zl0 ?zl1 ?zl2 ?_); (case zc1 => exact Lw.cl_Poly (by assumption)); (case zc2 => exact Lw.na_Poly_numbers (by assumption)); (case zl0 => exact rfl); (case zl1 => walk_at "up"); (case zl2 => exact lkA)))
local macro_rules | `(tactic| walk_at "z") => `(tactic| ((with_reducible refine' z_fldG ?zc1 ?zc2 ?zl0 ?zl1 ?zl2 ?_); (case zc1 => exact Lw.cl_Poly (by assumption)); (case zc2 => exact Lw.na_Poly_over (by assumption)); (case zl0 => exact rfl); (case zl1 => walk_at "up"); (case zl2 => exact lkO)))
local macro_rules | `(tactic| walk_at "z") => `(tactic| ((with_reducible refine' z_fldG ?zc1 ?zc2 ?zl0 ?zl1 ?zl2 ?_); (case zc1 => exact Lw.cl_Poly (by assumption)); (case zc2 => exact Lw.na_Poly_degree (by assumption)); (case zl0 => exact rfl); (case zl1 => walk_at "up"); (case zl2 => exact lkD)))
local macro_rules | `(tactic| walk_at "z") => `(tactic| ((with_reducible refine' z_glst ?zl1 ?zl2 ?_); (case zl1 => walk_at "up"); (case zl2 => exact rfl)))
local macro_rules | `(tactic| walk_at "z") => `(tactic| ((with_reducible refine' z_ixLst ?zl1 ?zl2 ?_); (case zl1 => walk_at "up"); (case zl2 => exact rfl)))
local macro_rules | `(tactic| walk_at "z") => `(tactic| ((with_reducible refine' u_mtV ?zl1 ?_); (case zl1 => walk_at "up")))
local macro_rules | `(tactic| walk_at "z") => `(tactic| ((with_reducible refine' u_mtQP ?zl1 ?_); (case zl1 => walk_at "up")))
local macro_rules | `(tactic| walk_at "z") => `(tactic| ((with_reducible refine' z_fldG ?zc1 ?zc2 ?zl0 ?zl1 ?zl2 ?_); (case zc1 => exact Lw.cl_SixClaim (by assumption)); (case zc2 => exact Lw.na_SixClaim_letters (by assumption)); (case zl0 => exact rfl); (case zl1 => walk_at "up"); (case zl2 => exact lkA)))
local macro_rules | `(tactic| walk_at "z") => `(tactic| ((with_reducible refine' z_fldG ?zc1 ?zc2 ?zl0 ?zl1 ?zl2 ?_); (case zc1 => exact Lw.cl_SixClaim (by assumption)); (case zc2 => exact Lw.na_SixClaim_numbers (by assumption)); (case zl0 => exact rfl); (case zl1 => walk_at "up"); (case zl2 => exact (lkB (by decide +kernel) lkA))))
local macro_rules | `(tactic| walk_at "z") => `(tactic| with_reducible refine z_oaI ?_)
local macro_rules | `(tactic| walk_at "z") => `(tactic| with_reducible refine z_osI ?_)
theorem same66h {H H1 H2 : Hp} (h : Same H1 H2) (e : Same H H1) : Same H H2 := e.trans h
local macro_rules | `(tactic| walk_at "sm") => `(tactic| first
  | assumption
  | exact fun _ _ h => h
  | (refine' same66h (by assumption) ?zsm; case zsm => walk_at "sm"))
local macro_rules | `(tactic| walk_at "up") => `(tactic| first
  | assumption
  | (with_reducible refine' IsR.mono (by assumption) ?zup; case zup => walk_at "up")
  | (with_reducible refine' IsV.mono (by assumption) ?zup; case zup => walk_at "up")
  | (with_reducible refine' IsQ.mono (by assumption) ?zup; case zup => walk_at "up")
  | (with_reducible refine' QP.mono (by assumption) ?zup; case zup => walk_at "up")
  | (with_reducible refine' R3.mono (by assumption) ?zup; case zup => walk_at "up")
  | (with_reducible refine' Same.at (by assumption) ?zup; case zup => walk_at "up")
  | (with_reducible refine' IsSC.mono (by assumption) ?zup; case zup => walk_at "up")
  | fail)
section
variable {P : Program} {w : World} {K : Frag} {mg : Str → Option Value} {base : Heap}
theorem ok_SixClaimD_initD (L : Lw K mg) {fd : FuncData} (F : FunD K "__init__" "SixClaim.__init__" (defArgs s_SixClaimD_initD) (defBody s_SixClaimD_initD) (defScope s_SixClaimD_initD) (df_SixClaimD_initD.dvs K) (df_SixClaimD_initD.kws K) (He.fAd K ("SixClaim", some "__init__")) fd) : FnOk P w K mg base (L2N.CX P w) 4 (He.fAd K ("SixClaim", some "__init__")) fd (["self", "letters", "numbers"] : List Str) (sp3 (fs_scinit K)) := by
  refine FunD.ok F sc_SixClaimD_initD len3 (fun cdv A outer s H vs Q E hr h => ?_)
  obtain ⟨a, b, c, rfl, h⟩ := h
  refine ⟨_, (pss_cons (ps_expr (pe_c (c_check_number (K := K) L) hr (by decide) (L2N.takes_of rfl rfl rfl rfl) (pa_cons (pv 1) (pa_cons pe_int (pa_cons pe_int pa_nil)))))
    (pss_cons (ps_expr (pe_c (c_check_size (K := K) L) hr (by decide) (L2N.takes_of rfl rfl rfl rfl) (pa_cons (pv 2) (pa_cons pe_int (pa_cons pe_int pa_nil)))))
    (pss_cons (ps_fld (pv 0) (pv 1) rfl)
    (pss_one (ps_fld (pv 0) (pe_callTy (callK rTup1 (K := K) rfl call_tuple_of) (by rfl) L.f_tuple (by decide +kernel) (pa_cons (pv 2) pa_nil)) rfl))))), ?_⟩
  obtain ⟨x, dx, s, H0, n, xs, rfl, rfl, rfl, rfl, hx, hdx, ne, hs, h3, n0, n1, k⟩ := h
  have sm : Same H0 (upd (upd H0 dx (.own x)) x (.ins (He.ga K "SixClaim") dx [])) := (Same.put (Same.new hdx) hx)
  have hxx : upd (upd H0 dx (.own x)) x (.ins (He.ga K "SixClaim") dx []) x = some (.ins (He.ga K "SixClaim") dx []) := upd_same
  have hs2 := sm _ _ hs
  generalize upd (upd H0 dx (.own x)) x (.ins (He.ga K "SixClaim") dx []) = H at *
  walk_at "zz"
  refine ⟨_, _, _, rfl, n, 2, rfl, rfl, .inr ⟨200, rfl⟩, fun _ => ?_, fun z => absurd ⟨n0, fun h e => by cases e; exact n1⟩ z⟩
  walk_at "zz"
  refine ⟨_, _, _, rfl, s, xs, 3, 3, rfl, rfl, rfl, .inl hs2, fun _ => ?_, fun z => absurd ⟨by omega, by omega⟩ z⟩
  walk_at "zz"
  refine z_sflp L.cl_SixClaim L.na_SixClaim_letters rfl hxx (by show 0 < 1000; decide) ?_
  rw [pfN]
  have e2 : (upd H x (.ins (He.ga K "SixClaim") dx [("letters", .int n)])) x = some (.ins (He.ga K "SixClaim") dx [("letters", .int n)]) := upd_same
  have s2 : Same H0 (upd H x (.ins (He.ga K "SixClaim") dx [("letters", .int n)])) := Same.put sm hx
  generalize (upd H x (.ins (He.ga K "SixClaim") dx [("letters", .int n)])) = H2 at *
  have hs3 := s2 _ _ hs
  walk_at "zz"
  refine z_tup1L hs3 (fun t H3 ht s3 et => ?_)
  walk_at "zz"
  refine z_sflp L.cl_SixClaim L.na_SixClaim_numbers rfl (s3 _ _ e2) (by show 1 < 1000; decide) ?_
  rw [pfB (by decide +kernel), pfN]
  walk_at "zz"
  refine k _ t (Same.put (s2.trans s3) hx) upd_same ?_
  rw [upd_ne (fun e => by rw [e, s3 _ _ e2] at et; cases et)]
  exact et
theorem c_SixClaimD_initD (L : Lw K mg) : Mak P w K mg base 4 "SixClaim" (He.ga K "SixClaim") (sp3 (fs_scinit K)) [] := by
  obtain ⟨fd, F⟩ := L.d_SixClaimD_initD
  exact ⟨⟨_, fd, ["self", "letters", "numbers"], [], L.mk_SixClaim, ok_SixClaimD_initD L F, L.g_SixClaim, F.bindsN (fun _ _ _ _ _ _ us hl => match us, hl with | [_, _, _], _ => rfl), .nil⟩⟩
end
end T
set_option maxHeartbeats 4000000
namespace T
open PySem PySem.Spec PyProof.Rows L2 Z
open S31 (cf)
open S30
/-- an instance of a class -/
def Inst (K : Frag) (H : Hp) (z : Addr) (C : Str) : Prop := ∃ dx fs, H z = some (.ins (He.ga K C) dx fs)
theorem Inst.mono {K : Frag} {H H' : Hp} {z : Addr} {C : Str} (e : Same H H') (h : Inst K H z C) : Inst K H' z C := by
  obtain ⟨dx, fs, h⟩ := h
  exact ⟨dx, fs, e _ _ h⟩
/-- q is not below zero at 1 .. n -/
def Hold (a b c : Rat) (n : Int) : Prop := ∀ k : Int, 1 ≤ k → k ≤ n → 0 ≤ S66.rv a b c k
def fs_scq (K : Frag) : F1 := fun x H Q _ => ∃ (s : Addr) (n : Int) (a b c : Rat) (B : Nat), x = .ref s ∧ IsSC K H s n a b c B ∧ 1 ≤ B ∧ B ≤ 1000 ∧ ∀ z H', Same H H' → QP K H' z a b c (B + 12) → Q (.ref z) H'
def fs_hold (K : Frag) : F1 := fun x H Q _ => ∃ (s : Addr) (n : Int) (a b c : Rat) (B : Nat), x = .ref s ∧ IsSC K H s n a b c B ∧ 1 ≤ B ∧ B ≤ 1000 ∧ 1 ≤ n ∧ n ≤ 200 ∧ ∀ r H', Same H H' → (r = true ↔ Hold a b c n) → Q (.bl r) H'
theorem u_mtSC {K : Frag} {H : Hp} {s : Addr} {n : Int} {a b c : Rat} {B : Nat} {m : Str} {R : Prop} (h : IsSC K H s n a b c B) (q : R) (h1 : ¬ m = "letters" := by decide +kernel) (h2 : ¬ m = "numbers" := by decide +kernel) : zMt (He.ga K "SixClaim") m (.ref s) H R := by
  obtain ⟨dx, t, e, _⟩ := h
  exact ⟨s, dx, _, rfl, e, by rw [lookup_put, if_neg h1, lookup_put, if_neg h2]; rfl, q⟩
/-! the readings' steps, as one word: walk_at "z" (one step), "zz" (as far as it goes), "up" (a fact carried here) -/
local macro_rules | `(tactic| walk_at "up") => `(tactic| first
  | assumption
  | (refine' IsR.mono (by assumption) ?zup; case zup => walk_at "up")
  | (refine' IsE.mono (by assumption) ?zup; case zup => walk_at "up")
  | (refine' Same.at (by assumption) ?zup; case zup => walk_at "up")
  | (refine' SqL.of ?zup; case zup => walk_at "up")
  | (refine' L2.Same.seq (by assumption) ?zup; case zup => walk_at "up"))
local macro_rules | `(tactic| walk_at "z") => `(tactic| first
  | ((with_reducible refine' z_var ?zvh ?_); (case zvh => exact rfl))
  | with_reducible refine z_c ?_
  | with_reducible refine z_cons ?_
  | with_reducible refine z_nil ?_
  | with_reducible refine z_op ?_
  | with_reducible refine z_nx ?_
  | with_reducible refine z_seq ?_
  | with_reducible refine z_asg ?_
  | with_reducible refine z_asgG ?_
  | with_reducible refine z_call ?_
  | with_reducible refine z_sq0 ?_
  | with_reducible refine z_sq1 ?_
  | with_reducible refine z_ifS ?_
  | with_reducible refine z_test ?_
  | with_reducible refine z_tb ?_
  | with_reducible refine z_bl ?_
  | with_reducible refine z_blI ?_
  | with_reducible refine z_ret ?_
  | with_reducible refine z_rt ?_
  | with_reducible refine z_T ?_
  | with_reducible refine z_F ?_
  | with_reducible refine z_add ?_
  | with_reducible refine z_sub ?_
  | with_reducible refine z_neg ?_
  | with_reducible refine z_un ?_
  | with_reducible refine z_eqI ?_
  | with_reducible refine z_neI ?_
  | with_reducible refine z_lt ?_
  | with_reducible refine z_le ?_
  | with_reducible refine z_gt ?_
  | with_reducible refine z_ge ?_
  | with_reducible refine z_not ?_
  | with_reducible refine z_and ?_
  | with_reducible refine z_or ?_
  | with_reducible refine z_andV ?_
  | with_reducible refine z_orV ?_
  | with_reducible refine z_notV ?_
  | with_reducible refine z_if ?_
  | with_reducible refine z_cb ?_
  | with_reducible refine z_int1 ?_
  | with_reducible refine z_intb ?_
  | with_reducible refine z_abs ?_
  | with_reducible refine z_gcd ?_
  | with_reducible refine z_isi_ii ?_
  | with_reducible refine z_isi_ib ?_
  | with_reducible refine z_next ?_
  | with_reducible refine z_drop ?_
  | with_reducible refine z_par ?_
  | with_reducible refine z_par2 ?_
  | with_reducible refine z_tupN ?_
  | with_reducible refine z_lstN ?_
  | ((with_reducible refine' z_nt ?zl1 ?_); (case zl1 => exact Nat.le_of_ble_eq_true rfl); intro p H' hp hs he)
  | ((with_reducible refine' z_gtup ?zl1 ?zl2 ?_); (case zl1 => walk_at "up"); (case zl2 => exact rfl))
  | with_reducible refine z_bk ?_
  | with_reducible refine z_ct ?_
  | with_reducible refine z_break ?_
  | with_reducible refine z_cont ?_
  | with_reducible refine z_retN ?_
  | with_reducible refine z_nn ?_
  | with_reducible refine z_mk ?_
  | with_reducible refine z_gn ?_
  | with_reducible refine z_gcons ?_
  | with_reducible refine z_gnil ?_
  | with_reducible refine z_mt ?_
  | with_reducible refine z_mko ?_
  | with_reducible refine z_for2 ?_
  | with_reducible refine z_ownI ?_
  | ((with_reducible refine' z_lenL ?zl1 ?_); (case zl1 => walk_at "up"))
  | ((with_reducible refine' z_ixT ?zl1 ?zl2 ?_); (case zl1 => walk_at "up"); (case zl2 => exact rfl))
  | ((with_reducible refine' z_mulL ?zl1 ?zl2 ?_); (case zl1 => omega); (case zl2 => omega))
  | ((with_reducible refine' z_mulR ?zl1 ?zl2 ?_); (case zl1 => omega); (case zl2 => omega))
  | ((with_reducible refine' z_divS ?zl1 ?zl2 ?_); (case zl1 => omega); (case zl2 => omega))
  | ((with_reducible refine' z_mulW ?zl1 ?zl2 ?zl3 ?zl4 ?_); (case zl1 => omega); (case zl2 => omega); (case zl3 => omega); (case zl4 => omega))
  | ((with_reducible refine' z_divW ?zl1 ?zl2 ?_); (case zl1 => omega); (case zl2 => omega)))
local macro_rules | `(tactic| walk_at "zz") => `(tactic| repeat (walk_at "z"))
local macro_rules | `(tactic| walk_at "z") => `(tactic| with_reducible refine z_lstN ?_)
local macro_rules | `(tactic| walk_at "z") => `(tactic| with_reducible refine z_p6 ?_)
local macro_rules | `(tactic| walk_at "z") => `(tactic| with_reducible refine z_p12 ?_)
local macro_rules | `(tactic| walk_at "z") => `(tactic| with_reducible refine z_p13 ?_)
local macro_rules | `(tactic| walk_at "z") => `(tactic| with_reducible refine z_calln ?_)
local macro_rules | `(tactic| walk_at "z") => `(tactic| with_reducible refine z_xfS ?_)
local macro_rules | `(tactic| walk_at "z") => `(tactic| with_reducible refine z_lcS ?_)
local macro_rules | `(tactic| walk_at "z") => `(tactic| with_reducible refine z_lcRS ?_)
local macro_rules | `(tactic| walk_at "z") => `(tactic| with_reducible refine z_lcZS ?_)
local macro_rules | `(tactic| walk_at "z") => `(tactic| with_reducible refine z_foS ?_)
local macro_rules | `(tactic| walk_at "z") => `(tactic| with_reducible refine z_for1 ?_)
local macro_rules | `(tactic| walk_at "z") => `(tactic| with_reducible refine z_tsl ?_)
local macro_rules | `(tactic| walk_at "z") => `(tactic| with_reducible refine z_np ?_)
local macro_rules | `(tactic| walk_at "z") => `(tactic| with_reducible refine z_pt ?_)
local macro_rules | `(tactic| walk_at "z") => `(tactic| with_reducible refine z_pti ?_)
local macro_rules | `(tactic| walk_at "z") => `(tactic| with_reducible refine z_catI ?_)
local macro_rules | `(tactic| walk_at "z") => `(tactic| with_reducible refine z_isNI ?_)
local macro_rules | `(tactic| walk_at "z") => `(tactic| with_reducible refine z_isNN ?_)
local macro_rules | `(tactic| walk_at "z") => `(tactic| with_reducible refine z_notNI ?_)
local macro_rules | `(tactic| walk_at "z") => `(tactic| with_reducible refine z_notNN ?_)
local macro_rules | `(tactic| walk_at "z") => `(tactic| with_reducible refine z_gsub ?_)
local macro_rules | `(tactic| walk_at "z") => `(tactic| with_reducible refine z_isNb ?_)
local macro_rules | `(tactic| walk_at "z") => `(tactic| with_reducible refine z_notNb ?_)
local macro_rules | `(tactic| walk_at "z") => `(tactic| ((with_reducible refine' z_nlR ?zl1 ?_); (case zl1 => exact Nat.le_of_ble_eq_true rfl); intro p H' hp hs he))
local macro_rules | `(tactic| walk_at "z") => `(tactic| ((with_reducible refine' z_repR ?zl1 ?zl2 ?_); (case zl1 => omega); (case zl2 => omega)))
local macro_rules | `(tactic| walk_at "z") => `(tactic| ((with_reducible refine' z_repL ?zl1 ?zl2 ?_); (case zl1 => omega); (case zl2 => omega)))
local macro_rules | `(tactic| walk_at "z") => `(tactic| ((with_reducible refine' z_lenLst ?zl1 ?_); (case zl1 => walk_at "up")))
local macro_rules | `(tactic| walk_at "z") => `(tactic| ((with_reducible refine' z_cat ?zl1 ?zl2 ?zl3 ?_); (case zl1 => walk_at "up"); (case zl2 => walk_at "up"); (case zl3 => (simp only [List.length_map, List.length_cons, List.length_nil, List.length_append, List.length_replicate]; omega)); intro p H' hp hs he))
local macro_rules | `(tactic| walk_at "z") => `(tactic| with_reducible refine z_sfl ?_)
local macro_rules | `(tactic| walk_at "z") => `(tactic| with_reducible refine z_lcES ?_)
local macro_rules | `(tactic| walk_at "z") => `(tactic| with_reducible refine z_lcMS ?_)
local macro_rules | `(tactic| walk_at "z") => `(tactic| with_reducible refine z_foES ?_)
local macro_rules | `(tactic| walk_at "z") => `(tactic| with_reducible refine z_fo3S ?_)
local macro_rules | `(tactic| walk_at "z") => `(tactic| with_reducible refine z_sta ?_)
local macro_rules | `(tactic| walk_at "z") => `(tactic| with_reducible refine z_sta1 ?_)
local macro_rules | `(tactic| walk_at "z") => `(tactic| with_reducible refine z_lcTS ?_)
local macro_rules | `(tactic| walk_at "z") => `(tactic| with_reducible refine z_foTS ?_)
local macro_rules | `(tactic| walk_at "z") => `(tactic| with_reducible refine z_revTS ?_)
local macro_rules | `(tactic| walk_at "z") => `(tactic| with_reducible refine z_max2 ?_)
local macro_rules | `(tactic| walk_at "z") => `(tactic| with_reducible refine z_fldS ?_)
local macro_rules | `(tactic| walk_at "z") => `(tactic| ((with_reducible refine' z_fdt ?zc1 ?zc2 ?zl2 ?_); (case zc1 => exact Lw.cl_Ratio (by assumption)); (case zc2 => exact Lw.na_Ratio_top (by assumption)); (case zl2 => walk_at "up")))
local macro_rules | `(tactic| walk_at "z") => `(tactic| ((with_reducible refine' z_fdb ?zc1 ?zc2 ?zl2 ?_); (case zc1 => exact Lw.cl_Ratio (by assumption)); (case zc2 => exact Lw.na_Ratio_bottom (by assumption)); (case zl2 => walk_at "up")))
local macro_rules | `(tactic| walk_at "z") => `(tactic| ((with_reducible refine' z_fldt ?zc1 ?zc2 ?zl1 ?zl2 ?_); (case zc1 => exact Lw.cl_Ratio (by assumption)); (case zc2 => exact Lw.na_Ratio_top (by assumption)); (case zl1 => exact rfl); (case zl2 => walk_at "up")))
local macro_rules | `(tactic| walk_at "z") => `(tactic| ((with_reducible refine' z_fldb ?zc1 ?zc2 ?zl1 ?zl2 ?_); (case zc1 => exact Lw.cl_Ratio (by assumption)); (case zc2 => exact Lw.na_Ratio_bottom (by assumption)); (case zl1 => exact rfl); (case zl2 => walk_at "up")))
local macro_rules | `(tactic| walk_at "z") => `(tactic| ((with_reducible refine' z_fldG ?zc1 ?zc2 ?zl0 ?zl1 ?zl2 ?_); (case zc1 => exact Lw.cl_Poly (by assumption)); (case zc2 => exact Lw.na_Poly_numbers (by assumption)); (case zl0 => exact rfl); (case zl1 => walk_at "up"); (case zl2 => exact lkA)))
local macro_rules | `(tactic| walk_at "z") => `(tactic| ((with_reducible refine' z_fldG ?zc1 ?zc2 ?zl0 ?zl1 ?zl2 ?_); (case zc1 => exact Lw.cl_Poly (by assumption)); (case zc2 => exact Lw.na_Poly_over (by assumption)); (case zl0 => exact rfl); (case zl1 => walk_at "up"); (case zl2 => exact lkO)))
local macro_rules | `(tactic| walk_at "z") => `(tactic| ((with_reducible refine' z_fldG ?zc1 ?zc2 ?zl0 ?zl1 ?zl2 ?_); (case zc1 => exact Lw.cl_Poly (by assumption)); (case zc2 => exact Lw.na_Poly_degree (by assumption)); (case zl0 => exact rfl); (case zl1 => walk_at "up"); (case zl2 => exact lkD)))
local macro_rules | `(tactic| walk_at "z") => `(tactic| ((with_reducible refine' z_glst ?zl1 ?zl2 ?_); (case zl1 => walk_at "up"); (case zl2 => exact rfl)))
local macro_rules | `(tactic| walk_at "z") => `(tactic| ((with_reducible refine' z_ixLst ?zl1 ?zl2 ?_); (case zl1 => walk_at "up"); (case zl2 => exact rfl)))
local macro_rules | `(tactic| walk_at "z") => `(tactic| ((with_reducible refine' u_mtV ?zl1 ?_); (case zl1 => walk_at "up")))
local macro_rules | `(tactic| walk_at "z") => `(tactic| ((with_reducible refine' u_mtQP ?zl1 ?_); (case zl1 => walk_at "up")))
local macro_rules | `(tactic| walk_at "z") => `(tactic| ((with_reducible refine' z_fldG ?zc1 ?zc2 ?zl0 ?zl1 ?zl2 ?_); (case zc1 => exact Lw.cl_SixClaim (by assumption)); (case zc2 => exact Lw.na_SixClaim_letters (by assumption)); (case zl0 => exact rfl); (case zl1 => walk_at "up"); (case zl2 => exact lkA)))
local macro_rules | `(tactic| walk_at "z") => `(tactic| ((with_reducible refine' z_fldG ?zc1 ?zc2 ?zl0 ?zl1 ?zl2 ?_); (case zc1 => exact Lw.cl_SixClaim (by assumption)); (case zc2 => exact Lw.na_SixClaim_numbers (by assumption)); (case zl0 => exact rfl); (case zl1 => walk_at "up"); (case zl2 => exact (lkB (by decide +kernel) lkA))))
local macro_rules | `(tactic| walk_at "z") => `(tactic| with_reducible refine z_oaI ?_)
local macro_rules | `(tactic| walk_at "z") => `(tactic| with_reducible refine z_osI ?_)
local macro_rules | `(tactic| walk_at "z") => `(tactic| ((with_reducible refine' u_mtSC ?zl1 ?_); (case zl1 => walk_at "up")))
theorem same66i {H H1 H2 : Hp} (h : Same H1 H2) (e : Same H H1) : Same H H2 := e.trans h
local macro_rules | `(tactic| walk_at "sm") => `(tactic| first
  | assumption
  | exact fun _ _ h => h
  | (refine' same66i (by assumption) ?zsm; case zsm => walk_at "sm"))
local macro_rules | `(tactic| walk_at "up") => `(tactic| first
  | assumption
  | (with_reducible refine' IsR.mono (by assumption) ?zup; case zup => walk_at "up")
  | (with_reducible refine' IsV.mono (by assumption) ?zup; case zup => walk_at "up")
  | (with_reducible refine' IsQ.mono (by assumption) ?zup; case zup => walk_at "up")
  | (with_reducible refine' QP.mono (by assumption) ?zup; case zup => walk_at "up")
  | (with_reducible refine' R3.mono (by assumption) ?zup; case zup => walk_at "up")
  | (with_reducible refine' Same.at (by assumption) ?zup; case zup => walk_at "up")
  | (with_reducible refine' IsSC.mono (by assumption) ?zup; case zup => walk_at "up")
  | (with_reducible refine' Inst.mono (by assumption) ?zup; case zup => walk_at "up")
  | fail)
section
variable {P : Program} {w : World} {K : Frag} {mg : Str → Option Value} {base : Heap}
theorem ok_SixClaim_quadratic (L : Lw K mg) {fd : FuncData} (F : FunD K "quadratic" "SixClaim.quadratic" (defArgs s_SixClaim_quadratic) (defBody s_SixClaim_quadratic) (defScope s_SixClaim_quadratic) (df_SixClaim_quadratic.dvs K) (df_SixClaim_quadratic.kws K) (He.fAd K ("SixClaim", some "quadratic")) fd) : FnOk P w K mg base (L2N.CX P w) 7 (He.fAd K ("SixClaim", some "quadratic")) fd (["self"] : List Str) (sp1 (fs_scq K)) := by
  refine FunD.ok F sc_SixClaim_quadratic len1 (fun cdv A outer s H vs Q E hr h => ?_)
  obtain ⟨a, rfl, h⟩ := h
  refine ⟨_, (pss_one (ps_ret (pe_c (c_quadratic_of (K := K) L) hr (by decide) (L2N.takes_of rfl rfl rfl rfl) (pa_cons (pe_fld (pv 0) rfl) pa_nil)))), ?_⟩
  obtain ⟨s, n, a, b, c, B, rfl, ⟨dx, t, hs, h3⟩, B1, B2, k⟩ := h
  walk_at "zz"
  exact ⟨_, rfl, t, a, b, c, B, rfl, h3, B1, B2, k⟩
theorem c_SixClaim_quadratic (L : Lw K mg) : Met P w K mg base 7 (He.ga K "SixClaim") "quadratic" (sp1 (fs_scq K)) [] := by
  obtain ⟨fd, F⟩ := L.d_SixClaim_quadratic
  exact ⟨⟨_, fd, ["self"], [], L.cl_SixClaim, L.me_SixClaim_quadratic, ok_SixClaim_quadratic L F, F.bindsN (fun _ _ _ _ _ _ us hl => match us, hl with | [_], _ => rfl), .nil⟩⟩
theorem ok_SixClaim_holds (L : Lw K mg) {fd : FuncData} (F : FunD K "holds" "SixClaim.holds" (defArgs s_SixClaim_holds) (defBody s_SixClaim_holds) (defScope s_SixClaim_holds) (df_SixClaim_holds.dvs K) (df_SixClaim_holds.kws K) (He.fAd K ("SixClaim", some "holds")) fd) : FnOk P w K mg base (L2N.CX P w) 8 (He.fAd K ("SixClaim", some "holds")) fd (["self"] : List Str) (sp1 (fs_hold K)) := by
  refine FunD.ok F sc_SixClaim_holds len1 (fun cdv A outer s H vs Q E hr h => ?_)
  obtain ⟨a, rfl, h⟩ := h
  refine ⟨_, (pss_one (ps_ret (pe_cmpR o_isN (pe_c (c_first_below (K := K) L) hr (by decide) (L2N.takes_of rfl rfl rfl rfl) (pa_cons (pe_mt0 (c_SixClaim_quadratic (K := K) L) hr (by decide) (L2N.takes_of rfl rfl rfl rfl) (pv 0)) (pa_cons (pe_fld (pv 0) rfl) pa_nil))) pe_non (nomark _)))), ?_⟩
  obtain ⟨s, n, a, b, c, B, rfl, hsc, B1, B2, n1, n2, k⟩ := h
  obtain ⟨dx, t, hs, h3⟩ := id hsc
  walk_at "zz"
  refine ⟨_, rfl, s, n, a, b, c, B, rfl, hsc, B1, B2, fun z H1 s1 hz => ?_⟩
  walk_at "zz"
  refine ⟨_, _, rfl, z, a, b, c, _, n, rfl, rfl, hz, n1, n2, fun j H2 s2 j1 j2 hj => ?_, fun H2 s2 hj => ?_⟩
  · walk_at "zz"
    refine k _ _ (s1.trans s2) ⟨fun e => Bool.noConfusion e, fun e => ?_⟩
    have := e j j1 j2
    grind
  · walk_at "zz"
    exact k _ _ (s1.trans s2) ⟨fun _ => hj, fun _ => rfl⟩
theorem c_SixClaim_holds (L : Lw K mg) : Met P w K mg base 8 (He.ga K "SixClaim") "holds" (sp1 (fs_hold K)) [] := by
  obtain ⟨fd, F⟩ := L.d_SixClaim_holds
  exact ⟨⟨_, fd, ["self"], [], L.cl_SixClaim, L.me_SixClaim_holds, ok_SixClaim_holds L F, F.bindsN (fun _ _ _ _ _ _ us hl => match us, hl with | [_], _ => rfl), .nil⟩⟩
end
end T
set_option maxHeartbeats 4000000
namespace T
open PySem PySem.Spec PyProof.Rows L2 Z
open S31 (cf)
open S30
/-- a Ratio in lowest terms, equal to T / w -/
def Fr (K : Frag) (H : Hp) (a : Addr) (T w : Int) : Prop := ∃ t b : Int, IsR K H a t b ∧ 0 < b ∧ Int.gcd t b = 1 ∧ t * w = T * b
theorem Fr.monoN {K : Frag} {H H' : Hp} {a : Addr} {T w : Int} (s : SameN H H') (h : Fr K H a T w) : Fr K H' a T w := by
  obtain ⟨t, b, h1, h⟩ := h
  exact ⟨t, b, IsR.monoN s h1, h⟩
theorem Fr.mono {K : Frag} {H H' : Hp} {a : Addr} {T w : Int} (s : Same H H') (h : Fr K H a T w) : Fr K H' a T w := h.monoN (SameN.of s)
theorem mul_cancel {x y d : Int} (hd : 0 < d) (e : x * d = y * d) : x = y := Int.eq_of_mul_eq_mul_right (by omega) e
theorem Fr.cast {K : Frag} {H : Hp} {a : Addr} {n d T w : Int} (h : Fr K H a n d) (hd : 0 < d) (e : n * w = T * d) : Fr K H a T w := by
  obtain ⟨t, b, h1, h2, h3, h4⟩ := h
  refine ⟨t, b, h1, h2, h3, mul_cancel hd ?_⟩
  have : t * w * d = (t * d) * w := by grind
  rw [this, h4]
  have : n * b * w = (n * w) * b := by grind
  rw [this, e]
  grind
theorem fr_le {t b T w : Int} (h0 : 0 < b) (g : Int.gcd t b = 1) (w0 : 0 < w) (e : t * w = T * b) : b ≤ w ∧ t.natAbs ≤ T.natAbs ∧ b ∣ w := by
  have d : b.natAbs ∣ t.natAbs * w.natAbs := by
    rw [← Int.natAbs_mul, e, Int.natAbs_mul]
    exact Nat.dvd_mul_left _ _
  have d2 : b.natAbs ∣ w.natAbs := Nat.Coprime.dvd_of_dvd_mul_left (by
    have : Nat.gcd t.natAbs b.natAbs = 1 := g
    rw [Nat.Coprime, Nat.gcd_comm]
    exact this) d
  have d3 : b ∣ w := Int.natAbs_dvd_natAbs.mp d2
  have l : b ≤ w := Int.le_of_dvd w0 d3
  refine ⟨l, ?_, d3⟩
  have e2 : t.natAbs * w.natAbs = T.natAbs * b.natAbs := by rw [← Int.natAbs_mul, e, Int.natAbs_mul]
  have e3 : T.natAbs * b.natAbs ≤ T.natAbs * w.natAbs := Nat.mul_le_mul_left _ (by omega)
  exact Nat.le_of_mul_le_mul_right (by omega : t.natAbs * w.natAbs ≤ T.natAbs * w.natAbs) (by omega)
theorem fr_bits {t b T w : Int} {B C : Nat} (h0 : 0 < b) (g : Int.gcd t b = 1) (w0 : 0 < w) (e : t * w = T * b) (hT : Bits B T) (hw : Bits C w) : Bits B t ∧ Bits C b := by
  obtain ⟨l1, l2, _⟩ := fr_le h0 g w0 e
  exact ⟨hT.le l2, hw.le (by omega)⟩
theorem u_mkF {K : Frag} {H : Hp} {Q : VK} {E : XK} {n d T w : Int} (hd : 0 < d) (h9 : Bits 8999 d) (e : n * w = T * d) (k : ∀ p H', Same H H' → Fr K H' p T w → Q (.ref p) H') :
    zMk (He.ga K "Ratio") (sp3 (fs_rinit K)) [] E [.int n, .int d] H Q :=
  z_mkR (by omega) h9 fun p H' s h => k p H' s (Fr.cast (n := n) (d := d) ⟨_, _, h, rt_spec hd⟩ hd e)
theorem u_mkF1 {K : Frag} {H : Hp} {Q : VK} {E : XK} {n : Int} (k : ∀ p H', Same H H' → Fr K H' p n 1 → Q (.ref p) H') : zMk (He.ga K "Ratio") (sp3 (fs_rinit K)) [.int 1] E [.int n] H Q :=
  z_mkR1 fun p H' s h => k p H' s ⟨n, 1, h, by decide, by simp, rfl⟩
theorem u_mtF {K : Frag} {H : Hp} {p : Addr} {S w : Int} {m : Str} {R : Prop} (h : Fr K H p S w) (q : R) (h1 : ¬ m = "top" := by decide +kernel) (h2 : ¬ m = "bottom" := by decide +kernel) : zMt (He.ga K "Ratio") m (.ref p) H R := by
  obtain ⟨t, b, hr, _⟩ := h
  exact z_mtR hr q h1 h2
def itF (K : Frag) (T : Nat → Int) (w : Int) : Hp → V → Nat → Prop := fun H x k => ∃ a, x = .ref a ∧ Fr K H a (T k) w
theorem itF_mono {K : Frag} {T : Nat → Int} {w : Int} : Mono (itF K T w) := fun H H' x k s h => by
  obtain ⟨a, e, h⟩ := h
  exact ⟨a, e, h.monoN s⟩
/-- a list or a tuple of n Ratios -/
def FS (K : Frag) (H : Hp) (g : Addr) (xs : List V) (T : Nat → Int) (w : Int) : Prop := Sq2 H g xs ∧ ∀ k x, xs[k]? = some x → itF K T w H x k
theorem FS.mono {K : Frag} {H H' : Hp} {g : Addr} {xs : List V} {T : Nat → Int} {w : Int} (s : Same H H') (h : FS K H g xs T w) : FS K H' g xs T w := ⟨h.1.mono s, fun k x e => itF_mono _ _ _ _ (SameN.of s) (h.2 k x e)⟩
theorem FS.ls {K : Frag} {H : Hp} {D : Addr} {n : Nat} {T : Nat → Int} {w : Int} (h : Ls H D n (itF K T w)) : ∃ xs, FS K H D xs T w ∧ H D = some (.lst xs) ∧ xs.length = n := by
  obtain ⟨xs, h1, h2, h3⟩ := h
  exact ⟨xs, ⟨.inl h1, h3⟩, h1, h2⟩
def sm (T : Nat → Int) : Nat → Int
  | 0 => 0
  | n + 1 => sm T n + T n
def fs_fadd (K : Frag) : F2 := fun a b H Q _ => ∃ (p r : Addr) (T w T' w' : Int) (B C : Nat), a = .ref p ∧ b = .ref r ∧ Fr K H p T w ∧ Fr K H r T' w' ∧ 0 < w ∧ 0 < w' ∧ Bits B T ∧ Bits B T' ∧ Bits C w ∧ Bits C w' ∧ B ≤ 100000 ∧ C ≤ 4000 ∧ ∀ x H', Same H H' → Fr K H' x (T * w' + T' * w) (w * w') → Q (.ref x) H'
def fs_fmul (K : Frag) : F2 := fun a b H Q _ => ∃ (p r : Addr) (T w T' w' : Int) (B C : Nat), a = .ref p ∧ b = .ref r ∧ Fr K H p T w ∧ Fr K H r T' w' ∧ 0 < w ∧ 0 < w' ∧ Bits B T ∧ Bits B T' ∧ Bits C w ∧ Bits C w' ∧ B ≤ 100000 ∧ C ≤ 4000 ∧ ∀ x H', Same H H' → Fr K H' x (T * T') (w * w') → Q (.ref x) H'
def fs_fsgn (K : Frag) : F1 := fun a H Q _ => ∃ (p : Addr) (T w : Int), a = .ref p ∧ Fr K H p T w ∧ 0 < w ∧ Q (.int (if T < 0 then -1 else if 0 < T then 1 else 0)) H
theorem fr_neg {t b T w : Int} (h0 : 0 < b) (w0 : 0 < w) (e : t * w = T * b) : (t < 0 ↔ T < 0) ∧ (0 < t ↔ 0 < T) := by
  constructor
  · constructor
    · intro h
      refine Int.not_le.mp fun z => ?_
      have := Int.mul_neg_of_neg_of_pos h w0
      have := Int.mul_nonneg z (show 0 ≤ b by omega)
      omega
    · intro h
      refine Int.not_le.mp fun z => ?_
      have := Int.mul_neg_of_neg_of_pos h h0
      have := Int.mul_nonneg z (show 0 ≤ w by omega)
      omega
  · constructor
    · intro h
      refine Int.not_le.mp fun z => ?_
      have := Int.mul_pos h w0
      have := Int.mul_nonpos_of_nonpos_of_nonneg z (show 0 ≤ b by omega)
      omega
    · intro h
      refine Int.not_le.mp fun z => ?_
      have := Int.mul_pos h h0
      have := Int.mul_nonpos_of_nonpos_of_nonneg z (show 0 ≤ w by omega)
      omega
theorem u_fadd {K : Frag} {r0 : R2} {H : Hp} {Q : VK} {E : XK} {p r : Addr} {T w T' w' : Int} {B C : Nat} (h1 : Fr K H p T w) (h2 : Fr K H r T' w') (w0 : 0 < w) (w0' : 0 < w') (bT : Bits B T) (bT' : Bits B T') (bw : Bits C w) (bw' : Bits C w') (hB : B ≤ 100000) (hC : C ≤ 4000)
    (k : ∀ x H', Same H H' → Fr K H' x (T * w' + T' * w) (w * w') → Q (.ref x) H') : rOr r0 (rOwn2 (He.ga K "Ratio") (sp2 (fs_fadd K)) E) (.ref p) (.ref r) H Q := by
  obtain ⟨t, b, ⟨dx, q1⟩, z⟩ := id h1
  obtain ⟨t', b', ⟨dy, q2⟩, z'⟩ := id h2
  exact z_own2 q1 q2 ⟨_, _, rfl, p, r, T, w, T', w', B, C, rfl, rfl, h1, h2, w0, w0', bT, bT', bw, bw', hB, hC, fun x H' s q => ⟨⟨x, rfl⟩, k x H' s q⟩⟩
theorem u_fmul {K : Frag} {r0 : R2} {H : Hp} {Q : VK} {E : XK} {p r : Addr} {T w T' w' : Int} {B C : Nat} (h1 : Fr K H p T w) (h2 : Fr K H r T' w') (w0 : 0 < w) (w0' : 0 < w') (bT : Bits B T) (bT' : Bits B T') (bw : Bits C w) (bw' : Bits C w') (hB : B ≤ 100000) (hC : C ≤ 4000)
    (k : ∀ x H', Same H H' → Fr K H' x (T * T') (w * w') → Q (.ref x) H') : rOr r0 (rOwn2 (He.ga K "Ratio") (sp2 (fs_fmul K)) E) (.ref p) (.ref r) H Q := by
  obtain ⟨t, b, ⟨dx, q1⟩, z⟩ := id h1
  obtain ⟨t', b', ⟨dy, q2⟩, z'⟩ := id h2
  exact z_own2 q1 q2 ⟨_, _, rfl, p, r, T, w, T', w', B, C, rfl, rfl, h1, h2, w0, w0', bT, bT', bw, bw', hB, hC, fun x H' s q => ⟨⟨x, rfl⟩, k x H' s q⟩⟩
def fs_cshr (K : Frag) : F1 := fun a H Q E => ∃ (g : Addr) (xs : List V) (T : Nat → Int) (w : Int), a = .ref g ∧ FS K H g xs T w ∧ 0 < w ∧
  (1 ≤ xs.length → xs.length ≤ 200 → (∀ k, k < xs.length → 0 ≤ T k) → Q .non H) ∧
  (¬ (1 ≤ xs.length ∧ xs.length ≤ 200) → ∀ d H', Same H H' → H' d = some (.xd [("size", .int (xs.length : Int))]) → E (.ref (He.ga K "BadSize")) (some d) H') ∧
  (1 ≤ xs.length → xs.length ≤ 200 → ∀ k x, xs[k]? = some x → T k < 0 → (∀ j, j < k → 0 ≤ T j) → ∀ d H', Same H H' → H' d = some (.xd [("ratio", x)]) → E (.ref (He.ga K "Negative")) (some d) H')
def fs_rsum (K : Frag) : F1 := fun a H Q _ => ∃ (g : Addr) (xs : List V) (T : Nat → Int) (w : Int) (B C : Nat), a = .ref g ∧ FS K H g xs T w ∧ 0 < w ∧ Bits C w ∧ C ≤ 3000 ∧ (∀ k, Bits B (T k)) ∧ B ≤ 100000 ∧ xs.length ≤ 1000 ∧ ∀ x H', Same H H' → Fr K H' x (sm T xs.length) w → Q (.ref x) H'
theorem lcm_dvd {a b w : Int} (ha : a ∣ w) (hb : b ∣ w) : ((Nat.lcm a.natAbs b.natAbs : Nat) : Int) ∣ w := by
  refine Int.natAbs_dvd_natAbs.mp ?_
  rw [Int.natAbs_natCast]
  exact Nat.lcm_dvd (Int.natAbs_dvd_natAbs.mpr ha) (Int.natAbs_dvd_natAbs.mpr hb)
theorem FS.fn {K : Frag} {H : Hp} {g : Addr} {xs : List V} {T : Nat → Int} {w : Int} (h : FS K H g xs T w) : ∃ ts bs : Nat → Int, ∀ k x, xs[k]? = some x → ∃ a, x = .ref a ∧ IsR K H a (ts k) (bs k) ∧ 0 < bs k ∧ Int.gcd (ts k) (bs k) = 1 ∧ ts k * w = T k * bs k := by
  have q : ∀ k, ∃ p : Int × Int, ∀ x, xs[k]? = some x → ∃ a, x = .ref a ∧ IsR K H a p.1 p.2 ∧ 0 < p.2 ∧ Int.gcd p.1 p.2 = 1 ∧ p.1 * w = T k * p.2 := fun k => by
    cases e : xs[k]? with
    | none => exact ⟨(0, 0), fun x z => nomatch z⟩
    | some x =>
      obtain ⟨a, ex, t, b, h1, h2, h3, h4⟩ := h.2 k x e
      refine ⟨(t, b), fun y z => ?_⟩
      cases z
      exact ⟨a, ex, h1, h2, h3, h4⟩
  obtain ⟨f, hf⟩ := Classical.axiomOfChoice q
  exact ⟨fun k => (f k).1, fun k => (f k).2, fun k x e => hf k x e⟩
/-! the readings' steps, as one word: walk_at "z" (one step), "zz" (as far as it goes), "up" (a fact carried here) -/
local macro_rules | `(tactic| walk_at "up") => `(tactic| first
  | assumption
  | (refine' IsR.mono (by assumption) ?zup; case zup => walk_at "up")
  | (refine' IsE.mono (by assumption) ?zup; case zup => walk_at "up")
  | (refine' Same.at (by assumption) ?zup; case zup => walk_at "up")
  | (refine' SqL.of ?zup; case zup => walk_at "up")
  | (refine' L2.Same.seq (by assumption) ?zup; case zup => walk_at "up"))
local macro_rules | `(tactic| walk_at "z") => `(tactic| first
  | ((with_reducible refine' z_var ?zvh ?_); (case zvh => exact rfl))
  | with_reducible refine z_c ?_
  | with_reducible refine z_cons ?_
  | with_reducible refine z_nil ?_
  | with_reducible refine z_op ?_
  | with_reducible refine z_nx ?_
  | with_reducible refine z_seq ?_
  | with_reducible refine z_asg ?_
  | with_reducible refine z_asgG ?_
  | with_reducible refine z_call ?_
  | with_reducible refine z_sq0 ?_
  | with_reducible refine z_sq1 ?_
  | with_reducible refine z_ifS ?_
  | with_reducible refine z_test ?_
  | with_reducible refine z_tb ?_
  | with_reducible refine z_bl ?_
  | with_reducible refine z_blI ?_
  | with_reducible refine z_ret ?_
  | with_reducible refine z_rt ?_
  | with_reducible refine z_T ?_
  | with_reducible refine z_F ?_
  | with_reducible refine z_add ?_
  | with_reducible refine z_sub ?_
  | with_reducible refine z_neg ?_
  | with_reducible refine z_un ?_
  | with_reducible refine z_eqI ?_
  | with_reducible refine z_neI ?_
  | with_reducible refine z_lt ?_
  | with_reducible refine z_le ?_
  | with_reducible refine z_gt ?_
  | with_reducible refine z_ge ?_
  | with_reducible refine z_not ?_
  | with_reducible refine z_and ?_
  | with_reducible refine z_or ?_
  | with_reducible refine z_andV ?_
  | with_reducible refine z_orV ?_
  | with_reducible refine z_notV ?_
  | with_reducible refine z_if ?_
  | with_reducible refine z_cb ?_
  | with_reducible refine z_int1 ?_
  | with_reducible refine z_intb ?_
  | with_reducible refine z_abs ?_
  | with_reducible refine z_gcd ?_
  | with_reducible refine z_isi_ii ?_
  | with_reducible refine z_isi_ib ?_
  | with_reducible refine z_next ?_
  | with_reducible refine z_drop ?_
  | with_reducible refine z_par ?_
  | with_reducible refine z_par2 ?_
  | with_reducible refine z_tupN ?_
  | with_reducible refine z_lstN ?_
  | ((with_reducible refine' z_nt ?zl1 ?_); (case zl1 => exact Nat.le_of_ble_eq_true rfl); intro p H' hp hs he)
  | ((with_reducible refine' z_gtup ?zl1 ?zl2 ?_); (case zl1 => walk_at "up"); (case zl2 => exact rfl))
  | with_reducible refine z_bk ?_
  | with_reducible refine z_ct ?_
  | with_reducible refine z_break ?_
  | with_reducible refine z_cont ?_
  | with_reducible refine z_retN ?_
  | with_reducible refine z_nn ?_
  | with_reducible refine z_mk ?_
  | with_reducible refine z_gn ?_
  | with_reducible refine z_gcons ?_
  | with_reducible refine z_gnil ?_
  | with_reducible refine z_mt ?_
  | with_reducible refine z_mko ?_
  | with_reducible refine z_for2 ?_
  | with_reducible refine z_ownI ?_
  | ((with_reducible refine' z_lenL ?zl1 ?_); (case zl1 => walk_at "up"))
  | ((with_reducible refine' z_ixT ?zl1 ?zl2 ?_); (case zl1 => walk_at "up"); (case zl2 => exact rfl))
  | ((with_reducible refine' z_mulL ?zl1 ?zl2 ?_); (case zl1 => omega); (case zl2 => omega))
  | ((with_reducible refine' z_mulR ?zl1 ?zl2 ?_); (case zl1 => omega); (case zl2 => omega))
  | ((with_reducible refine' z_divS ?zl1 ?zl2 ?_); (case zl1 => omega); (case zl2 => omega))
  | ((with_reducible refine' z_mulW ?zl1 ?zl2 ?zl3 ?zl4 ?_); (case zl1 => omega); (case zl2 => omega); (case zl3 => omega); (case zl4 => omega))
  | ((with_reducible refine' z_divW ?zl1 ?zl2 ?_); (case zl1 => omega); (case zl2 => omega)))
local macro_rules | `(tactic| walk_at "zz") => `(tactic| repeat (walk_at "z"))
local macro_rules | `(tactic| walk_at "z") => `(tactic| with_reducible refine z_lstN ?_)
local macro_rules | `(tactic| walk_at "z") => `(tactic| with_reducible refine z_p6 ?_)
local macro_rules | `(tactic| walk_at "z") => `(tactic| with_reducible refine z_p12 ?_)
local macro_rules | `(tactic| walk_at "z") => `(tactic| with_reducible refine z_p13 ?_)
local macro_rules | `(tactic| walk_at "z") => `(tactic| with_reducible refine z_calln ?_)
local macro_rules | `(tactic| walk_at "z") => `(tactic| with_reducible refine z_xfS ?_)
local macro_rules | `(tactic| walk_at "z") => `(tactic| with_reducible refine z_lcS ?_)
local macro_rules | `(tactic| walk_at "z") => `(tactic| with_reducible refine z_lcRS ?_)
local macro_rules | `(tactic| walk_at "z") => `(tactic| with_reducible refine z_lcZS ?_)
local macro_rules | `(tactic| walk_at "z") => `(tactic| with_reducible refine z_foS ?_)
local macro_rules | `(tactic| walk_at "z") => `(tactic| with_reducible refine z_for1 ?_)
local macro_rules | `(tactic| walk_at "z") => `(tactic| with_reducible refine z_tsl ?_)
local macro_rules | `(tactic| walk_at "z") => `(tactic| with_reducible refine z_np ?_)
local macro_rules | `(tactic| walk_at "z") => `(tactic| with_reducible refine z_pt ?_)
local macro_rules | `(tactic| walk_at "z") => `(tactic| with_reducible refine z_pti ?_)
local macro_rules | `(tactic| walk_at "z") => `(tactic| with_reducible refine z_catI ?_)
local macro_rules | `(tactic| walk_at "z") => `(tactic| with_reducible refine z_isNI ?_)
local macro_rules | `(tactic| walk_at "z") => `(tactic| with_reducible refine z_isNN ?_)
local macro_rules | `(tactic| walk_at "z") => `(tactic| with_reducible refine z_notNI ?_)
local macro_rules | `(tactic| walk_at "z") => `(tactic| with_reducible refine z_notNN ?_)
local macro_rules | `(tactic| walk_at "z") => `(tactic| with_reducible refine z_gsub ?_)
local macro_rules | `(tactic| walk_at "z") => `(tactic| with_reducible refine z_isNb ?_)
local macro_rules | `(tactic| walk_at "z") => `(tactic| with_reducible refine z_notNb ?_)
local macro_rules | `(tactic| walk_at "z") => `(tactic| ((with_reducible refine' z_nlR ?zl1 ?_); (case zl1 => exact Nat.le_of_ble_eq_true rfl); intro p H' hp hs he))
local macro_rules | `(tactic| walk_at "z") => `(tactic| ((with_reducible refine' z_repR ?zl1 ?zl2 ?_); (case zl1 => omega); (case zl2 => omega)))
local macro_rules | `(tactic| walk_at "z") => `(tactic| ((with_reducible refine' z_repL ?zl1 ?zl2 ?_); (case zl1 => omega); (case zl2 => omega)))
local macro_rules | `(tactic| walk_at "z") => `(tactic| ((with_reducible refine' z_lenLst ?zl1 ?_); (case zl1 => walk_at "up")))
local macro_rules | `(tactic| walk_at "z") => `(tactic| ((with_reducible refine' z_cat ?zl1 ?zl2 ?zl3 ?_); (case zl1 => walk_at "up"); (case zl2 => walk_at "up"); (case zl3 => (simp only [List.length_map, List.length_cons, List.length_nil, List.length_append, List.length_replicate]; omega)); intro p H' hp hs he))
local macro_rules | `(tactic| walk_at "z") => `(tactic| with_reducible refine z_sfl ?_)
local macro_rules | `(tactic| walk_at "z") => `(tactic| with_reducible refine z_lcES ?_)
local macro_rules | `(tactic| walk_at "z") => `(tactic| with_reducible refine z_lcMS ?_)
local macro_rules | `(tactic| walk_at "z") => `(tactic| with_reducible refine z_foES ?_)
local macro_rules | `(tactic| walk_at "z") => `(tactic| with_reducible refine z_fo3S ?_)
local macro_rules | `(tactic| walk_at "z") => `(tactic| with_reducible refine z_sta ?_)
local macro_rules | `(tactic| walk_at "z") => `(tactic| with_reducible refine z_sta1 ?_)
local macro_rules | `(tactic| walk_at "z") => `(tactic| with_reducible refine z_lcTS ?_)
local macro_rules | `(tactic| walk_at "z") => `(tactic| with_reducible refine z_foTS ?_)
local macro_rules | `(tactic| walk_at "z") => `(tactic| with_reducible refine z_revTS ?_)
local macro_rules | `(tactic| walk_at "z") => `(tactic| with_reducible refine z_max2 ?_)
local macro_rules | `(tactic| walk_at "z") => `(tactic| ((with_reducible refine' z_fldt ?zc1 ?zc2 ?zl1 ?zl2 ?_); (case zc1 => exact Lw.cl_Ratio (by assumption)); (case zc2 => exact Lw.na_Ratio_top (by assumption)); (case zl1 => exact rfl); (case zl2 => walk_at "up")))
local macro_rules | `(tactic| walk_at "z") => `(tactic| ((with_reducible refine' z_fldb ?zc1 ?zc2 ?zl1 ?zl2 ?_); (case zc1 => exact Lw.cl_Ratio (by assumption)); (case zc2 => exact Lw.na_Ratio_bottom (by assumption)); (case zl1 => exact rfl); (case zl2 => walk_at "up")))
local macro_rules | `(tactic| walk_at "z") => `(tactic| ((with_reducible refine' u_mtF ?zl1 ?_); (case zl1 => walk_at "up")))
local macro_rules | `(tactic| walk_at "z") => `(tactic| with_reducible refine z_oaI ?_)
local macro_rules | `(tactic| walk_at "z") => `(tactic| with_reducible refine z_osI ?_)
theorem same63a {H H1 H2 : Hp} (h : Same H1 H2) (e : Same H H1) : Same H H2 := e.trans h
local macro_rules | `(tactic| walk_at "sm") => `(tactic| first
  | assumption
  | exact fun _ _ h => h
  | (refine' same63a (by assumption) ?zsm; case zsm => walk_at "sm"))
local macro_rules | `(tactic| walk_at "up") => `(tactic| first
  | assumption
  | (with_reducible refine' IsR.mono (by assumption) ?zup; case zup => walk_at "up")
  | (with_reducible refine' Fr.mono (by assumption) ?zup; case zup => walk_at "up")
  | (with_reducible refine' FS.mono (by assumption) ?zup; case zup => walk_at "up")
  | (with_reducible refine' Sq2.mono (by assumption) ?zup; case zup => walk_at "up")
  | (with_reducible refine' Same.at (by assumption) ?zup; case zup => walk_at "up")
  | fail)
section
variable {P : Program} {w : World} {K : Frag} {mg : Str → Option Value} {base : Heap}
theorem ok_RatioD_addD (L : Lw K mg) {fd : FuncData} (F : FunD K "__add__" "Ratio.__add__" (defArgs s_RatioD_addD) (defBody s_RatioD_addD) (defScope s_RatioD_addD) (df_RatioD_addD.dvs K) (df_RatioD_addD.kws K) (He.fAd K ("Ratio", some "__add__")) fd) : FnOk P w K mg base (L2N.CX P w) 3 (He.fAd K ("Ratio", some "__add__")) fd (["self", "other"] : List Str) (sp2 (fs_fadd K)) := by
  refine FunD.ok F sc_RatioD_addD len2 (fun cdv A outer s H vs Q E hr h => ?_)
  obtain ⟨a, b, rfl, h⟩ := h
  refine ⟨_, (pss_one (ps_ret (pe_mk (c_RatioD_initD (K := K) L) hr (by decide) (L2N.takes_of rfl rfl rfl rfl) (pa_cons (pe_op o_cat (pe_op o_rep (pe_fld (pv 0) rfl) (pe_fld (pv 1) rfl)) (pe_op o_rep (pe_fld (pv 1) rfl) (pe_fld (pv 0) rfl))) (pa_cons (pe_op o_rep (pe_fld (pv 0) rfl) (pe_fld (pv 1) rfl)) pa_nil))))), ?_⟩
  obtain ⟨p, r, T, w, T', w', B, C, rfl, rfl, ⟨t, b, h1, b0, g, e⟩, ⟨t', b', h2, b0', g', e'⟩, w0, w0', bT, bT', bw, bw', hB, hC, k⟩ := h
  obtain ⟨bt, bb⟩ := fr_bits b0 g w0 e bT bw
  obtain ⟨bt', bb'⟩ := fr_bits b0' g' w0' e' bT' bw'
  walk_at "zz"
  refine z_repU bt bb' (by omega) ?_
  walk_at "zz"
  refine z_repU bt' bb (by omega) ?_
  walk_at "zz"
  refine z_repU bb bb' (by omega) ?_
  walk_at "zz"
  refine u_mkF (Int.mul_pos b0 b0') (Bits.up (bb.mul bb') (by omega)) ?_ k
  have : (t * b' + t' * b) * (w * w') = (t * w) * (b' * w') + (t' * w') * (b * w) := by grind
  rw [this, e, e']
  grind
theorem c_RatioD_addD (L : Lw K mg) : Met P w K mg base 3 (He.ga K "Ratio") "__add__" (sp2 (fs_fadd K)) [] := by
  obtain ⟨fd, F⟩ := L.d_RatioD_addD
  exact ⟨⟨_, fd, ["self", "other"], [], L.cl_Ratio, L.me_RatioD_addD, ok_RatioD_addD L F, F.bindsN (fun _ _ _ _ _ _ us hl => match us, hl with | [_, _], _ => rfl), .nil⟩⟩
theorem ok_RatioD_mulD (L : Lw K mg) {fd : FuncData} (F : FunD K "__mul__" "Ratio.__mul__" (defArgs s_RatioD_mulD) (defBody s_RatioD_mulD) (defScope s_RatioD_mulD) (df_RatioD_mulD.dvs K) (df_RatioD_mulD.kws K) (He.fAd K ("Ratio", some "__mul__")) fd) : FnOk P w K mg base (L2N.CX P w) 3 (He.fAd K ("Ratio", some "__mul__")) fd (["self", "other"] : List Str) (sp2 (fs_fmul K)) := by
  refine FunD.ok F sc_RatioD_mulD len2 (fun cdv A outer s H vs Q E hr h => ?_)
  obtain ⟨a, b, rfl, h⟩ := h
  refine ⟨_, (pss_one (ps_ret (pe_mk (c_RatioD_initD (K := K) L) hr (by decide) (L2N.takes_of rfl rfl rfl rfl) (pa_cons (pe_op o_rep (pe_fld (pv 0) rfl) (pe_fld (pv 1) rfl)) (pa_cons (pe_op o_rep (pe_fld (pv 0) rfl) (pe_fld (pv 1) rfl)) pa_nil))))), ?_⟩
  obtain ⟨p, r, T, w, T', w', B, C, rfl, rfl, ⟨t, b, h1, b0, g, e⟩, ⟨t', b', h2, b0', g', e'⟩, w0, w0', bT, bT', bw, bw', hB, hC, k⟩ := h
  obtain ⟨bt, bb⟩ := fr_bits b0 g w0 e bT bw
  obtain ⟨bt', bb'⟩ := fr_bits b0' g' w0' e' bT' bw'
  walk_at "zz"
  refine z_repU bt bt' (by omega) ?_
  walk_at "zz"
  refine z_repU bb bb' (by omega) ?_
  walk_at "zz"
  refine u_mkF (Int.mul_pos b0 b0') (Bits.up (bb.mul bb') (by omega)) ?_ k
  have : t * t' * (w * w') = (t * w) * (t' * w') := by grind
  rw [this, e, e']
  grind
theorem c_RatioD_mulD (L : Lw K mg) : Met P w K mg base 3 (He.ga K "Ratio") "__mul__" (sp2 (fs_fmul K)) [] := by
  obtain ⟨fd, F⟩ := L.d_RatioD_mulD
  exact ⟨⟨_, fd, ["self", "other"], [], L.cl_Ratio, L.me_RatioD_mulD, ok_RatioD_mulD L F, F.bindsN (fun _ _ _ _ _ _ us hl => match us, hl with | [_, _], _ => rfl), .nil⟩⟩
theorem ok_Ratio_sign (L : Lw K mg) {fd : FuncData} (F : FunD K "sign" "Ratio.sign" (defArgs s_Ratio_sign) (defBody s_Ratio_sign) (defScope s_Ratio_sign) (df_Ratio_sign.dvs K) (df_Ratio_sign.kws K) (He.fAd K ("Ratio", some "sign")) fd) : FnOk P w K mg base (L2N.CX P w) 1 (He.fAd K ("Ratio", some "sign")) fd (["self"] : List Str) (sp1 (fs_fsgn K)) := by
  refine FunD.ok F sc_Ratio_sign len1 (fun cdv A outer s H vs Q E hr h => ?_)
  obtain ⟨a, rfl, h⟩ := h
  refine ⟨_, (pss_cons (ps_if (pt_cmpR o_lt (pe_fld (pv 0) rfl) pe_int (nomark _)) (pss_one (ps_ret (pe_un o_neg pe_int))) pss_nil)
    (pss_one (ps_ret (pe_ifExp (pt_cmpR o_gt (pe_fld (pv 0) rfl) pe_int (nomark _)) pe_int pe_int)))), ?_⟩
  obtain ⟨p, T, w, rfl, ⟨t, b, h1, b0, g, e⟩, w0, q⟩ := h
  obtain ⟨c1, c2⟩ := fr_neg b0 w0 e
  walk_at "zz"
  refine z_d2 (fun c => ?_) (fun c => ?_)
  · rw [if_pos (c1.mp c)] at q
    walk_at "zz"
    exact q
  · rw [if_neg (fun z => c (c1.mpr z))] at q
    walk_at "zz"
    refine z_d2 (fun c => ?_) (fun c => ?_)
    · rw [if_pos (c2.mp c)] at q
      walk_at "zz"
      exact q
    · rw [if_neg (fun z => c (c2.mpr z))] at q
      walk_at "zz"
      exact q
theorem c_Ratio_sign (L : Lw K mg) : Met P w K mg base 1 (He.ga K "Ratio") "sign" (sp1 (fs_fsgn K)) [] := by
  obtain ⟨fd, F⟩ := L.d_Ratio_sign
  exact ⟨⟨_, fd, ["self"], [], L.cl_Ratio, L.me_Ratio_sign, ok_Ratio_sign L F, F.bindsN (fun _ _ _ _ _ _ us hl => match us, hl with | [_], _ => rfl), .nil⟩⟩
theorem ok_NegativeD_initD (L : Lw K mg) {fd : FuncData} (F : FunD K "__init__" "Negative.__init__" (defArgs s_NegativeD_initD) (defBody s_NegativeD_initD) (defScope s_NegativeD_initD) (df_NegativeD_initD.dvs K) (df_NegativeD_initD.kws K) (He.fAd K ("Negative", some "__init__")) fd) : FnOk P w K mg base (L2N.CX P w) 1 (He.fAd K ("Negative", some "__init__")) fd (["self", "ratio"] : List Str) (sp2 (fs_ex1 K "Negative" "ratio")) := by
  refine FunD.ok F sc_NegativeD_initD len2 (fun cdv A outer s H vs Q E hr h => ?_)
  obtain ⟨a, b, rfl, h⟩ := h
  refine ⟨_, (pss_one (ps_ost (pv 0) (pv 1))), ?_⟩
  obtain ⟨e, H0, rfl, rfl, h0, k⟩ := h
  exact run_ex1 (L.ox_Negative).1 L.na_Negative_ratio h0 rfl rfl k
theorem c_NegativeD_initD (L : Lw K mg) : MakX P w K mg base 1 "Negative" (He.ga K "Negative") (sp2 (fs_ex1 K "Negative" "ratio")) := by
  obtain ⟨fd, F⟩ := L.d_NegativeD_initD
  exact ⟨⟨_, fd, ["self", "ratio"], (L.ox_Negative).1, (L.ox_Negative).2.1, (L.ox_Negative).2.2, ok_NegativeD_initD L F, L.g_Negative, F.bindsN (fun _ _ _ _ _ _ us hl => match us, hl with | [_, _], _ => rfl)⟩⟩
theorem ok_check_shares (L : Lw K mg) {fd : FuncData} (F : FunD K "check_shares" "check_shares" (defArgs s_check_shares) (defBody s_check_shares) (defScope s_check_shares) (df_check_shares.dvs K) (df_check_shares.kws K) (He.fAd K ("check_shares", none)) fd) : FnOk P w K mg base (L2N.CX P w) 4 (He.fAd K ("check_shares", none)) fd (["shares"] : List Str) (sp1 (fs_cshr K)) := by
  refine FunD.ok F sc_check_shares len1 (fun cdv A outer s H vs Q E hr h => ?_)
  obtain ⟨a, rfl, h⟩ := h
  refine ⟨_, (pss_cons (ps_expr (pe_c (c_check_size (K := K) L) hr (by decide) (L2N.takes_of rfl rfl rfl rfl) (pa_cons (pv 0) (pa_cons pe_int (pa_cons pe_int pa_nil)))))
    (pss_one (ps_for (passes_of rfl) rfl (pi_or (pi_listK (K := K) rfl (pv 0)) (pi_tupK (K := K) rfl (pv 0))) (pg_name (i := 1) sc_check_shares.nd rfl (by first | exact Or.inl rfl | exact Or.inr rfl)) (pss_one (ps_if (pt_cmpR o_lt (pe_mt0 (c_Ratio_sign (K := K) L) hr (by decide) (L2N.takes_of rfl rfl rfl rfl) (pv 1)) pe_int (nomark _)) (pss_one (L2N.ps_raise rfl (L2N.takes_of rfl rfl rfl rfl) (pmk_x (c_NegativeD_initD (K := K) L) hr (by decide) passF (pa_cons (pv 1) pa_nil)))) pss_nil))))), ?_⟩
  rw [show L2.start (["shares", "share"] : List Str) [a] = [some a, none] from rfl]
  obtain ⟨g, xs, T, w, rfl, hF, w0, k1, k2, k3⟩ := h
  try dsimp only [List.set]
  walk_at "zz"
  refine ⟨_, _, _, rfl, g, xs, 1, 200, rfl, rfl, rfl, hF.1, fun hs => ?_, fun hs d H' s hd => k2 (by omega) d H' s hd⟩
  have n1 : 1 ≤ xs.length := by omega
  have n2 : xs.length ≤ 200 := by omega
  try dsimp only [List.set]
  walk_at "zz"
  refine z_foO (a := g) rfl (fun i σ' H' => ∃ x1 : Option V, σ' = [some (.ref g), x1] ∧ H' = H ∧ ∀ j, j < i → 0 ≤ T j) ⟨_, rfl, rfl, fun j hj => by omega⟩ hF.1 (fun i σ' H' z o ho => by obtain ⟨_, _, rfl, _⟩ := z; exact ho) ?_ ?_
  · rintro i x σ' H' hx ⟨x1, rfl, rfl, hj⟩
    obtain ⟨a, rfl, hr⟩ := hF.2 i x hx
    try dsimp only [List.set]
    walk_at "zz"
    refine ⟨_, rfl, a, _, _, rfl, hr, w0, ?_⟩
    try dsimp only [List.set]
    walk_at "zz"
    by_cases c : T i < 0
    · rw [if_pos c]
      refine z_dT (by decide) ?_
      try dsimp only [List.set]
      walk_at "zz"
      exact z_exo1 (k3 n1 n2 i _ hx c hj)
    · rw [if_neg c]
      refine z_dF (by split <;> decide) ?_
      try dsimp only [List.set]
      walk_at "zz"
      refine ⟨_, rfl, rfl, fun j hj' => ?_⟩
      by_cases e : j = i
      · rw [e]
        omega
      · exact hj j (by omega)
  · rintro σ' H' ⟨x1, rfl, rfl, hj⟩
    try dsimp only [List.set]
    walk_at "zz"
    exact k1 n1 n2 hj
theorem c_check_shares (L : Lw K mg) : Cal P w K mg base 4 "check_shares" (sp1 (fs_cshr K)) [] := by
  obtain ⟨fd, F⟩ := L.d_check_shares
  exact ⟨⟨_, fd, ["shares"], [], ok_check_shares L F, L.g_check_shares, F.kp, F.bindsN (fun _ _ _ _ _ _ us hl => match us, hl with | [_], _ => rfl), .nil⟩⟩
theorem ok_ratio_sum (L : Lw K mg) {fd : FuncData} (F : FunD K "ratio_sum" "ratio_sum" (defArgs s_ratio_sum) (defBody s_ratio_sum) (defScope s_ratio_sum) (df_ratio_sum.dvs K) (df_ratio_sum.kws K) (He.fAd K ("ratio_sum", none)) fd) : FnOk P w K mg base (L2N.CX P w) 3 (He.fAd K ("ratio_sum", none)) fd (["ratios"] : List Str) (sp1 (fs_rsum K)) := by
  refine FunD.ok F sc_ratio_sum len1 (fun cdv A outer s H vs Q E hr h => ?_)
  obtain ⟨a, rfl, h⟩ := h
  refine ⟨_, (pss_cons (ps_set (i := 1) sc_ratio_sum.nd rfl (by first | exact Or.inl rfl | exact Or.inr rfl) pe_int)
    (pss_cons (ps_for (passes_of rfl) rfl (pi_or (pi_listK (K := K) rfl (pv 0)) (pi_tupK (K := K) rfl (pv 0))) (pg_name (i := 2) sc_ratio_sum.nd rfl (by first | exact Or.inl rfl | exact Or.inr rfl)) (pss_one (ps_set (i := 1) sc_ratio_sum.nd rfl (by first | exact Or.inl rfl | exact Or.inr rfl) (pe_callBfun cr_lcm rfl L.v_lcm (pa_cons (pv 1) (pa_cons (pe_fld (pv 2) rfl) pa_nil))))))
    (pss_cons (ps_set (i := 3) sc_ratio_sum.nd rfl (by first | exact Or.inl rfl | exact Or.inr rfl) pe_int)
    (pss_cons (ps_for (passes_of rfl) rfl (pi_or (pi_listK (K := K) rfl (pv 0)) (pi_tupK (K := K) rfl (pv 0))) (pg_name (i := 2) sc_ratio_sum.nd rfl (by first | exact Or.inl rfl | exact Or.inr rfl)) (pss_one (ps_set (i := 3) sc_ratio_sum.nd rfl (by first | exact Or.inl rfl | exact Or.inr rfl) (pe_op o_cat (pv 3) (pe_op o_rep (pe_fld (pv 2) rfl) (pe_op o_div (pv 1) (pe_fld (pv 2) rfl)))))))
    (pss_one (ps_ret (pe_mk (c_RatioD_initD (K := K) L) hr (by decide) (L2N.takes_of rfl rfl rfl rfl) (pa_cons (pv 3) (pa_cons (pv 1) pa_nil))))))))), ?_⟩
  rw [show L2.start (["ratios", "bottom", "ratio", "top"] : List Str) [a] = [some a, none, none, none] from rfl]
  obtain ⟨g, xs, T, w, B, C, rfl, hF, w0, bw, hC, bT, hB, hn, k⟩ := h
  obtain ⟨ts, bs, hf⟩ := hF.fn
  try dsimp only [List.set]
  walk_at "zz"
  refine z_foO (a := g) rfl (fun i σ' H' => ∃ (Lc : Int) (x2 : Option V), σ' = [some (.ref g), some (.int Lc), x2, none] ∧ H = H' ∧ 0 < Lc ∧ Lc ∣ w ∧ ∀ j x, j < i → xs[j]? = some x → bs j ∣ Lc) ⟨1, _, rfl, rfl, by decide, Int.one_dvd _, fun j x hj => by omega⟩ hF.1 (fun i σ' H' z o ho => by obtain ⟨_, _, _, rfl, _⟩ := z; exact ho) ?_ ?_
  · rintro i x σ' H' hx ⟨Lc, x2, rfl, rfl, L0, Lw, Ld⟩
    obtain ⟨a, rfl, hr, b0, gg, e⟩ := hf i x hx
    obtain ⟨_, _, dw⟩ := fr_le b0 gg w0 e
    obtain ⟨l0, l1, l2, _⟩ := lcm_facts L0 b0
    have bL : Bits C Lc := bw.le (by have := Int.le_of_dvd w0 Lw; omega)
    have bb : Bits C (bs i) := bw.le (by have := Int.le_of_dvd w0 dw; omega)
    try dsimp only [List.set]
    walk_at "zz"
    refine z_lcm bL bb (by omega) (by omega) ?_
    try dsimp only [List.set]
    walk_at "zz"
    refine ⟨_, _, rfl, rfl, l0, lcm_dvd Lw dw, fun j y hj hy => ?_⟩
    by_cases ej : j = i
    · rw [ej]
      exact l2
    · exact Int.dvd_trans (Ld j y (by omega) hy) l1
  rintro σ' H' ⟨Lc, x2, rfl, rfl, L0, Lw, Ld⟩
  have bL : Bits C Lc := bw.le (by have := Int.le_of_dvd w0 Lw; omega)
  try dsimp only [List.set]
  walk_at "zz"
  refine z_foO (a := g) rfl (fun i σ' H' => ∃ (m : Int) (x2 : Option V), σ' = [some (.ref g), some (.int Lc), x2, some (.int m)] ∧ H' = H ∧ m * w = sm T i * Lc) ⟨0, _, rfl, rfl, by rw [sm, Int.zero_mul, Int.zero_mul]⟩ hF.1 (fun i σ' H' z o ho => by obtain ⟨_, _, _, rfl, _⟩ := z; exact ho) ?_ ?_
  · rintro i x σ' H' hx ⟨m, x2, rfl, rfl, em⟩
    obtain ⟨a, rfl, hr, b0, gg, e⟩ := hf i x hx
    obtain ⟨bt, bb⟩ := fr_bits b0 gg w0 e (bT i) bw
    have hi : i < xs.length := (List.getElem?_eq_some_iff.mp hx).1
    have dL := Ld i _ hi hx
    try dsimp only [List.set]
    walk_at "zz"
    refine z_div b0 (bb.up (Nat.le_succ C)) (by omega) (by omega) ?_
    try dsimp only [List.set]
    walk_at "zz"
    refine z_repU bt bL.div (by omega) ?_
    try dsimp only [List.set]
    walk_at "zz"
    refine ⟨_, _, rfl, rfl, ?_⟩
    have e2 : bs i * (Lc / bs i) = Lc := Int.mul_ediv_cancel' dL
    have e3 : (m + ts i * (Lc / bs i)) * w = m * w + (ts i * w) * (Lc / bs i) := by grind
    rw [e3, em, e, sm]
    have e4 : T i * bs i * (Lc / bs i) = T i * (bs i * (Lc / bs i)) := by grind
    rw [e4, e2]
    grind
  rintro σ' H' ⟨m, x2, rfl, rfl, em⟩
  try dsimp only [List.set]
  walk_at "zz"
  exact u_mkF L0 (bL.up (by omega)) em k
theorem c_ratio_sum (L : Lw K mg) : Cal P w K mg base 3 "ratio_sum" (sp1 (fs_rsum K)) [] := by
  obtain ⟨fd, F⟩ := L.d_ratio_sum
  exact ⟨⟨_, fd, ["ratios"], [], ok_ratio_sum L F, L.g_ratio_sum, F.kp, F.bindsN (fun _ _ _ _ _ _ us hl => match us, hl with | [_], _ => rfl), .nil⟩⟩
end
end T
set_option maxHeartbeats 4000000
namespace T
open PySem PySem.Spec PyProof.Rows L2 Z
open S31 (cf)
open S30
/-- called with keywords, the first one of them last -/
theorem kbR {K : Frag} {x qual : Str} {params : Arguments} {body : List Stmt} {scope : Scope} {kws : List (Str × V)} {f : Addr} {fd : FuncData} {ps : List Str} (F : FunD K x qual params body scope [] kws f fd) (n : Nat) (ks : List Str)
    (h : ∀ (kV doc pm : Value) (an : Option Addr) (cdv ct : Value) (us ws : List Value), us.length = n → ws.length = ks.length → bindArgs (PySem.W.fnOf x qual params body scope .none kV doc pm an cdv ct) ⟨us, ks.zip ws⟩ = pure (ps.zip (us ++ (ws.drop 1 ++ ws.take 1)))) :
    KBn K fd ps n ks (fun us ws => us ++ (ws.drop 1 ++ ws.take 1)) (fun vs zs => vs ++ (zs.drop 1 ++ zs.take 1)) := by
  obtain ⟨oc, od, dV, kV, doc, pm, an, cdv, ct, osl, rfl, lk, hcd, hD, hK⟩ := F.ex
  rcases hD with ⟨_, rfl⟩ | ⟨e, _⟩
  · exact ⟨fun s us ws _ l1 l2 => .of_eq (h kV doc pm an cdv ct us ws l1 l2), fun r1 r2 => r1.append ((r2.drop 1).append (r2.take 1))⟩
  · exact absurd rfl e
theorem z_asg2S {te : TE} {g1 g2 : TG} {D : Ends} {σ : L2.St} {H : Hp} (q : te σ H fun x H1 => g1 x σ H1 fun σ1 H2 => g2 x σ1 H2 D.nx) : tAsg2 te g1 g2 D σ H := q
theorem sm_bits {T : Nat → Int} {B n : Nat} (h : ∀ k, Bits B (T k)) (hn : n ≤ 1000) : Bits (B + 10) (sm T n) := by
  have q : ∀ n, (sm T n).natAbs ≤ n * 2 ^ B := fun n => by
    induction n with
    | zero => simp [sm]
    | succ n ih =>
      have := h n
      unfold Bits at this
      rw [sm, Nat.succ_mul]
      omega
  unfold Bits
  have h1 := q n
  have h2 : n * 2 ^ B ≤ 1000 * 2 ^ B := Nat.mul_le_mul_right _ hn
  have h3 := Nat.two_pow_pos B
  rw [Nat.pow_add]
  omega
def six (N : Nat → Int) (T : Nat → Int) (n : Nat) : Int := N 0 * sm (fun k => T k * T k * T k) n + (N 1 * sm (fun k => T k * T k) n + N 2 * sm T n * sm T n) * sm T n
def fs_sv (K : Frag) : F2 := fun a b H Q _ => ∃ (gn gs : Addr) (xn xs : List V) (N T : Nat → Int) (wn w : Int), a = .ref gn ∧ b = .ref gs ∧ FS K H gn xn N wn ∧ FS K H gs xs T w ∧ xn.length = 3 ∧ xs.length ≤ 1000 ∧ 0 < wn ∧ 0 < w ∧ (∀ k, Bits 130 (N k)) ∧ Bits 10 wn ∧ (∀ k, Bits 60 (T k)) ∧ Bits 12 w ∧
  ∀ x H', Same H H' → Fr K H' x (six N T xs.length) (wn * (w * w * w)) → Q (.ref x) H'
theorem at_ref {xs : List V} {i : Int} (h0 : 0 ≤ i) (h1 : i < xs.length) : ∃ x, xs[i.toNat]? = some x ∧ atI xs i = some x := by
  obtain ⟨n, rfl⟩ := Int.eq_ofNat_of_zero_le h0
  have hn : n < xs.length := by omega
  exact ⟨xs[n], List.getElem?_eq_getElem hn, atI_nat (List.getElem?_eq_getElem hn)⟩
theorem three_ex {xs : List V} (h : xs.length = 3) : ∃ x y z, xs = [x, y, z] := by
  match xs, h with
  | [x, y, z], _ => exact ⟨x, y, z, rfl⟩
/-- half the sum at both places; none at one, the sum at the other: over twice the bottom -/
def halv (T : Nat → Int) (i j : Nat) : Nat → Int := fun k => if k = j then T i + T j else if k = i then T i + T j else 2 * T k
def movd (T : Nat → Int) (i j : Nat) : Nat → Int := fun k => if k = j then 2 * (T i + T j) else if k = i then 0 else 2 * T k
def fs_six (K : Frag) : F2 := fun a b H Q E => ∃ (gn gs : Addr) (xn xs : List V) (N T : Nat → Int) (wn w : Int), a = .ref gn ∧ b = .ref gs ∧ FS K H gn xn N wn ∧ FS K H gs xs T w ∧ 0 < wn ∧ 0 < w ∧ (∀ k, Bits 130 (N k)) ∧ Bits 10 wn ∧ (∀ k, Bits 60 (T k)) ∧ Bits 12 w ∧
  (xn.length ≠ 3 → ∀ d H', Same H H' → H' d = some (.xd [("size", .int (xn.length : Int))]) → E (.ref (He.ga K "BadSize")) (some d) H') ∧
  (xn.length = 3 → ¬ (1 ≤ xs.length ∧ xs.length ≤ 200) → ∀ d H', Same H H' → H' d = some (.xd [("size", .int (xs.length : Int))]) → E (.ref (He.ga K "BadSize")) (some d) H') ∧
  (xn.length = 3 → 1 ≤ xs.length → xs.length ≤ 200 → ∀ k x, xs[k]? = some x → T k < 0 → (∀ j, j < k → 0 ≤ T j) → ∀ d H', Same H H' → H' d = some (.xd [("ratio", x)]) → E (.ref (He.ga K "Negative")) (some d) H') ∧
  (xn.length = 3 → 1 ≤ xs.length → xs.length ≤ 200 → (∀ k, k < xs.length → 0 ≤ T k) → ∀ x H', Same H H' → Fr K H' x (six N T xs.length) (wn * (w * w * w)) → Q (.ref x) H')
def fs_exch (K : Frag) : F3 := fun a b c H Q E => ∃ (g : Addr) (xs : List V) (T : Nat → Int) (w i j : Int), a = .ref g ∧ b = .int i ∧ c = .int j ∧ FS K H g xs T w ∧ 0 < w ∧ (∀ k, Bits 60 (T k)) ∧ Bits 12 w ∧
  (¬ (1 ≤ xs.length ∧ xs.length ≤ 200) → ∀ d H', Same H H' → H' d = some (.xd [("size", .int (xs.length : Int))]) → E (.ref (He.ga K "BadSize")) (some d) H') ∧
  (1 ≤ xs.length → xs.length ≤ 200 → ∀ k x, xs[k]? = some x → T k < 0 → (∀ j, j < k → 0 ≤ T j) → ∀ d H', Same H H' → H' d = some (.xd [("ratio", x)]) → E (.ref (He.ga K "Negative")) (some d) H') ∧
  (1 ≤ xs.length → xs.length ≤ 200 → (∀ k, k < xs.length → 0 ≤ T k) →
    (¬ (0 ≤ i ∧ i < xs.length) → ∀ d H', Same H H' → H' d = some (.xd [("value", .int i)]) → E (.ref (He.ga K "OutOfBounds")) (some d) H') ∧
    (0 ≤ i → i < xs.length → ¬ (0 ≤ j ∧ j < xs.length ∧ j ≠ i) → ∀ d H', Same H H' → H' d = some (.xd [("value", .int j)]) → E (.ref (He.ga K "OutOfBounds")) (some d) H') ∧
    (0 ≤ i → i < xs.length → 0 ≤ j → j < xs.length → j ≠ i → ∀ t h m H' ys zs, H h = none → H m = none → h ≠ m → Same H H' → H' t = some (.tup [.ref h, .ref m]) →
      FS K H' h ys (halv T i.toNat j.toNat) (2 * w) → H' h = some (.lst ys) → ys.length = xs.length → FS K H' m zs (movd T i.toNat j.toNat) (2 * w) → H' m = some (.lst zs) → zs.length = xs.length → Q (.ref t) H'))
theorem set2_at {xs : List V} {i j : Nat} {u v : V} (hi : i < xs.length) (hj : j < xs.length) {k : Nat} {x : V} (h : ((xs.set i u).set j v)[k]? = some x) : (k = j ∧ x = v) ∨ (k ≠ j ∧ k = i ∧ x = u) ∨ (k ≠ j ∧ k ≠ i ∧ xs[k]? = some x) := by
  rw [List.getElem?_set, List.getElem?_set] at h
  by_cases e : j = k
  · rw [if_pos e, if_pos (by rw [List.length_set]; exact hj)] at h
    exact .inl ⟨e.symm, (Option.some.inj h).symm⟩
  · rw [if_neg e] at h
    by_cases e2 : i = k
    · rw [if_pos e2, if_pos hi] at h
      exact .inr (.inl ⟨fun z => e z.symm, e2.symm, (Option.some.inj h).symm⟩)
    · rw [if_neg e2] at h
      exact .inr (.inr ⟨fun z => e z.symm, fun z => e2 z.symm, h⟩)
/-! the readings' steps, as one word: walk_at "z" (one step), "zz" (as far as it goes), "up" (a fact carried here) -/
local macro_rules | `(tactic| walk_at "up") => `(tactic| first
  | assumption
  | (refine' IsR.mono (by assumption) ?zup; case zup => walk_at "up")
  | (refine' IsE.mono (by assumption) ?zup; case zup => walk_at "up")
  | (refine' Same.at (by assumption) ?zup; case zup => walk_at "up")
  | (refine' SqL.of ?zup; case zup => walk_at "up")
  | (refine' L2.Same.seq (by assumption) ?zup; case zup => walk_at "up"))
local macro_rules | `(tactic| walk_at "z") => `(tactic| first
  | ((with_reducible refine' z_var ?zvh ?_); (case zvh => exact rfl))
  | with_reducible refine z_c ?_
  | with_reducible refine z_cons ?_
  | with_reducible refine z_nil ?_
  | with_reducible refine z_op ?_
  | with_reducible refine z_nx ?_
  | with_reducible refine z_seq ?_
  | with_reducible refine z_asg ?_
  | with_reducible refine z_asgG ?_
  | with_reducible refine z_call ?_
  | with_reducible refine z_sq0 ?_
  | with_reducible refine z_sq1 ?_
  | with_reducible refine z_ifS ?_
  | with_reducible refine z_test ?_
  | with_reducible refine z_tb ?_
  | with_reducible refine z_bl ?_
  | with_reducible refine z_blI ?_
  | with_reducible refine z_ret ?_
  | with_reducible refine z_rt ?_
  | with_reducible refine z_T ?_
  | with_reducible refine z_F ?_
  | with_reducible refine z_add ?_
  | with_reducible refine z_sub ?_
  | with_reducible refine z_neg ?_
  | with_reducible refine z_un ?_
  | with_reducible refine z_eqI ?_
  | with_reducible refine z_neI ?_
  | with_reducible refine z_lt ?_
  | with_reducible refine z_le ?_
  | with_reducible refine z_gt ?_
  | with_reducible refine z_ge ?_
  | with_reducible refine z_not ?_
  | with_reducible refine z_and ?_
  | with_reducible refine z_or ?_
  | with_reducible refine z_andV ?_
  | with_reducible refine z_orV ?_
  | with_reducible refine z_notV ?_
  | with_reducible refine z_if ?_
  | with_reducible refine z_cb ?_
  | with_reducible refine z_int1 ?_
  | with_reducible refine z_intb ?_
  | with_reducible refine z_abs ?_
  | with_reducible refine z_gcd ?_
  | with_reducible refine z_isi_ii ?_
  | with_reducible refine z_isi_ib ?_
  | with_reducible refine z_next ?_
  | with_reducible refine z_drop ?_
  | with_reducible refine z_par ?_
  | with_reducible refine z_par2 ?_
  | with_reducible refine z_tupN ?_
  | with_reducible refine z_lstN ?_
  | ((with_reducible refine' z_nt ?zl1 ?_); (case zl1 => exact Nat.le_of_ble_eq_true rfl); intro p H' hp hs he)
  | ((with_reducible refine' z_gtup ?zl1 ?zl2 ?_); (case zl1 => walk_at "up"); (case zl2 => exact rfl))
  | with_reducible refine z_bk ?_
  | with_reducible refine z_ct ?_
  | with_reducible refine z_break ?_
  | with_reducible refine z_cont ?_
  | with_reducible refine z_retN ?_
  | with_reducible refine z_nn ?_
  | with_reducible refine z_mk ?_
  | with_reducible refine z_gn ?_
  | with_reducible refine z_gcons ?_
  | with_reducible refine z_gnil ?_
  | with_reducible refine z_mt ?_
  | with_reducible refine z_mko ?_
  | with_reducible refine z_for2 ?_
  | with_reducible refine z_ownI ?_
  | ((with_reducible refine' z_lenL ?zl1 ?_); (case zl1 => walk_at "up"))
  | ((with_reducible refine' z_ixT ?zl1 ?zl2 ?_); (case zl1 => walk_at "up"); (case zl2 => exact rfl))
  | ((with_reducible refine' z_mulL ?zl1 ?zl2 ?_); (case zl1 => omega); (case zl2 => omega))
  | ((with_reducible refine' z_mulR ?zl1 ?zl2 ?_); (case zl1 => omega); (case zl2 => omega))
  | ((with_reducible refine' z_divS ?zl1 ?zl2 ?_); (case zl1 => omega); (case zl2 => omega))
  | ((with_reducible refine' z_mulW ?zl1 ?zl2 ?zl3 ?zl4 ?_); (case zl1 => omega); (case zl2 => omega); (case zl3 => omega); (case zl4 => omega))
  | ((with_reducible refine' z_divW ?zl1 ?zl2 ?_); (case zl1 => omega); (case zl2 => omega)))
local macro_rules | `(tactic| walk_at "zz") => `(tactic| repeat (walk_at "z"))
local macro_rules | `(tactic| walk_at "z") => `(tactic| with_reducible refine z_lstN ?_)
local macro_rules | `(tactic| walk_at "z") => `(tactic| with_reducible refine z_p6 ?_)
local macro_rules | `(tactic| walk_at "z") => `(tactic| with_reducible refine z_p12 ?_)
local macro_rules | `(tactic| walk_at "z") => `(tactic| with_reducible refine z_p13 ?_)
local macro_rules | `(tactic| walk_at "z") => `(tactic| with_reducible refine z_calln ?_)
local macro_rules | `(tactic| walk_at "z") => `(tactic| with_reducible refine z_xfS ?_)
local macro_rules | `(tactic| walk_at "z") => `(tactic| with_reducible refine z_lcS ?_)
local macro_rules | `(tactic| walk_at "z") => `(tactic| with_reducible refine z_lcRS ?_)
local macro_rules | `(tactic| walk_at "z") => `(tactic| with_reducible refine z_lcZS ?_)
local macro_rules | `(tactic| walk_at "z") => `(tactic| with_reducible refine z_foS ?_)
local macro_rules | `(tactic| walk_at "z") => `(tactic| with_reducible refine z_for1 ?_)
local macro_rules | `(tactic| walk_at "z") => `(tactic| with_reducible refine z_tsl ?_)
local macro_rules | `(tactic| walk_at "z") => `(tactic| with_reducible refine z_np ?_)
local macro_rules | `(tactic| walk_at "z") => `(tactic| with_reducible refine z_pt ?_)
local macro_rules | `(tactic| walk_at "z") => `(tactic| with_reducible refine z_pti ?_)
local macro_rules | `(tactic| walk_at "z") => `(tactic| with_reducible refine z_catI ?_)
local macro_rules | `(tactic| walk_at "z") => `(tactic| with_reducible refine z_isNI ?_)
local macro_rules | `(tactic| walk_at "z") => `(tactic| with_reducible refine z_isNN ?_)
local macro_rules | `(tactic| walk_at "z") => `(tactic| with_reducible refine z_notNI ?_)
local macro_rules | `(tactic| walk_at "z") => `(tactic| with_reducible refine z_notNN ?_)
local macro_rules | `(tactic| walk_at "z") => `(tactic| with_reducible refine z_gsub ?_)
local macro_rules | `(tactic| walk_at "z") => `(tactic| with_reducible refine z_isNb ?_)
local macro_rules | `(tactic| walk_at "z") => `(tactic| with_reducible refine z_notNb ?_)
local macro_rules | `(tactic| walk_at "z") => `(tactic| ((with_reducible refine' z_nlR ?zl1 ?_); (case zl1 => exact Nat.le_of_ble_eq_true rfl); intro p H' hp hs he))
local macro_rules | `(tactic| walk_at "z") => `(tactic| ((with_reducible refine' z_repR ?zl1 ?zl2 ?_); (case zl1 => omega); (case zl2 => omega)))
local macro_rules | `(tactic| walk_at "z") => `(tactic| ((with_reducible refine' z_repL ?zl1 ?zl2 ?_); (case zl1 => omega); (case zl2 => omega)))
local macro_rules | `(tactic| walk_at "z") => `(tactic| ((with_reducible refine' z_lenLst ?zl1 ?_); (case zl1 => walk_at "up")))
local macro_rules | `(tactic| walk_at "z") => `(tactic| ((with_reducible refine' z_cat ?zl1 ?zl2 ?zl3 ?_); (case zl1 => walk_at "up"); (case zl2 => walk_at "up"); (case zl3 => (simp only [List.length_map, List.length_cons, List.length_nil, List.length_append, List.length_replicate]; omega)); intro p H' hp hs he))
local macro_rules | `(tactic| walk_at "z") => `(tactic| with_reducible refine z_sfl ?_)
local macro_rules | `(tactic| walk_at "z") => `(tactic| with_reducible refine z_lcES ?_)
local macro_rules | `(tactic| walk_at "z") => `(tactic| with_reducible refine z_lcMS ?_)
local macro_rules | `(tactic| walk_at "z") => `(tactic| with_reducible refine z_foES ?_)
local macro_rules | `(tactic| walk_at "z") => `(tactic| with_reducible refine z_fo3S ?_)
local macro_rules | `(tactic| walk_at "z") => `(tactic| with_reducible refine z_sta ?_)
local macro_rules | `(tactic| walk_at "z") => `(tactic| with_reducible refine z_sta1 ?_)
local macro_rules | `(tactic| walk_at "z") => `(tactic| with_reducible refine z_lcTS ?_)
local macro_rules | `(tactic| walk_at "z") => `(tactic| with_reducible refine z_foTS ?_)
local macro_rules | `(tactic| walk_at "z") => `(tactic| with_reducible refine z_revTS ?_)
local macro_rules | `(tactic| walk_at "z") => `(tactic| with_reducible refine z_max2 ?_)
local macro_rules | `(tactic| walk_at "z") => `(tactic| ((with_reducible refine' z_fldt ?zc1 ?zc2 ?zl1 ?zl2 ?_); (case zc1 => exact Lw.cl_Ratio (by assumption)); (case zc2 => exact Lw.na_Ratio_top (by assumption)); (case zl1 => exact rfl); (case zl2 => walk_at "up")))
local macro_rules | `(tactic| walk_at "z") => `(tactic| ((with_reducible refine' z_fldb ?zc1 ?zc2 ?zl1 ?zl2 ?_); (case zc1 => exact Lw.cl_Ratio (by assumption)); (case zc2 => exact Lw.na_Ratio_bottom (by assumption)); (case zl1 => exact rfl); (case zl2 => walk_at "up")))
local macro_rules | `(tactic| walk_at "z") => `(tactic| ((with_reducible refine' u_mtF ?zl1 ?_); (case zl1 => walk_at "up")))
local macro_rules | `(tactic| walk_at "z") => `(tactic| with_reducible refine z_oaI ?_)
local macro_rules | `(tactic| walk_at "z") => `(tactic| with_reducible refine z_osI ?_)
local macro_rules | `(tactic| walk_at "z") => `(tactic| with_reducible refine z_asg2S ?_)
theorem same63b {H H1 H2 : Hp} (h : Same H1 H2) (e : Same H H1) : Same H H2 := e.trans h
local macro_rules | `(tactic| walk_at "sm") => `(tactic| first
  | assumption
  | exact fun _ _ h => h
  | (refine' same63b (by assumption) ?zsm; case zsm => walk_at "sm"))
local macro_rules | `(tactic| walk_at "up") => `(tactic| first
  | assumption
  | (with_reducible refine' IsR.mono (by assumption) ?zup; case zup => walk_at "up")
  | (with_reducible refine' Fr.mono (by assumption) ?zup; case zup => walk_at "up")
  | (with_reducible refine' FS.mono (by assumption) ?zup; case zup => walk_at "up")
  | (with_reducible refine' Sq2.mono (by assumption) ?zup; case zup => walk_at "up")
  | (with_reducible refine' Same.at (by assumption) ?zup; case zup => walk_at "up")
  | fail)
section
variable {P : Program} {w : World} {K : Frag} {mg : Str → Option Value} {base : Heap}
theorem ok_six_value (L : Lw K mg) {fd : FuncData} (F : FunD K "six_value" "six_value" (defArgs s_six_value) (defBody s_six_value) (defScope s_six_value) (df_six_value.dvs K) (df_six_value.kws K) (He.fAd K ("six_value", none)) fd) : FnOk P w K mg base (L2N.CX P w) 4 (He.fAd K ("six_value", none)) fd (["numbers", "shares"] : List Str) (sp2 (fs_sv K)) := by
  refine FunD.ok F sc_six_value len2 (fun cdv A outer s H vs Q E hr h => ?_)
  obtain ⟨a, b, rfl, h⟩ := h
  refine ⟨_, (pss_cons (ps_setLc (i := 2) (own := [("share", 3)]) (g := (gName 3)) (tt := tYes) rfl sc_six_value.nd rfl rfl (sw_true rfl rfl rfl (by decide +kernel)) (pi_or (pi_listK (K := K) rfl (pv 1)) (pi_tupK (K := K) rfl (pv 1))) (blkOk_by (N := ["numbers", "shares", "squares", "share", "first", "second", "third", "square"]) (sc := defScope s_six_value) (by decide +kernel)) (fun _ _ _ _ _ => pg_name (i := 3) sc_six_value.nd rfl (Or.inl rfl)) (fun _ _ _ _ _ => pts_nil) (fun _ _ _ _ _ => (pe_op (op_or2 o_rep (op_own (by rfl) L.sf_Ratio (c_RatioD_mulD (K := K) L) hr (by decide) passF)) (pv 3) (pv 3))))
    (pss_cons (ps_set (i := 4) sc_six_value.nd rfl (by first | exact Or.inl rfl | exact Or.inr rfl) (pe_c (c_ratio_sum (K := K) L) hr (by decide) (L2N.takes_of rfl rfl rfl rfl) (pa_cons (pv 1) pa_nil)))
    (pss_cons (ps_set (i := 5) sc_six_value.nd rfl (by first | exact Or.inl rfl | exact Or.inr rfl) (pe_c (c_ratio_sum (K := K) L) hr (by decide) (L2N.takes_of rfl rfl rfl rfl) (pa_cons (pv 2) pa_nil)))
    (pss_cons (ps_set (i := 6) sc_six_value.nd rfl (by first | exact Or.inl rfl | exact Or.inr rfl) (pe_c (c_ratio_sum (K := K) L) hr (by decide) (L2N.takes_of rfl rfl rfl rfl) (pa_cons (pe_lc (own := [("square", 7), ("share", 3)]) (g := (gTup K 2 (gCons (gName 7) (gCons (gName 3) gNil)))) (tt := tYes) rfl sc_six_value.nd (piK (fun K => iZipM K _) (K := K) rfl (pi_zipM (by rfl) L.f_zip (pa_cons (pv 2) (pa_cons (pv 1) pa_nil)))) (blkOk_by (N := ["numbers", "shares", "squares", "share", "first", "second", "third", "square"]) (sc := defScope s_six_value) (by decide +kernel)) (fun _ _ _ _ _ => pgK (fun K => gTup K 2 (gCons (gName 7) (gCons (gName 3) gNil))) (K := K) rfl (pg_tup rfl (pgs_cons (pg_name (i := 7) sc_six_value.nd rfl (Or.inl rfl)) (pgs_cons (pg_name (i := 3) sc_six_value.nd rfl (Or.inl rfl)) pgs_nil)))) (fun _ _ _ _ _ => pts_nil) (fun _ _ _ _ _ => (pe_op (op_or2 o_rep (op_own (by rfl) L.sf_Ratio (c_RatioD_mulD (K := K) L) hr (by decide) passF)) (pv 7) (pv 3)))) pa_nil)))
    (pss_one (ps_ret (pe_op (op_or2 o_cat (op_own (by rfl) L.sf_Ratio (c_RatioD_addD (K := K) L) hr (by decide) passF)) (pe_op (op_or2 o_rep (op_own (by rfl) L.sf_Ratio (c_RatioD_mulD (K := K) L) hr (by decide) passF)) (pe_ix (ix_seqK (K := K) rfl) (pv 0) pe_int (fun _ _ => rfl)) (pv 6)) (pe_op (op_or2 o_rep (op_own (by rfl) L.sf_Ratio (c_RatioD_mulD (K := K) L) hr (by decide) passF)) (pe_op (op_or2 o_cat (op_own (by rfl) L.sf_Ratio (c_RatioD_addD (K := K) L) hr (by decide) passF)) (pe_op (op_or2 o_rep (op_own (by rfl) L.sf_Ratio (c_RatioD_mulD (K := K) L) hr (by decide) passF)) (pe_ix (ix_seqK (K := K) rfl) (pv 0) pe_int (fun _ _ => rfl)) (pv 5)) (pe_op (op_or2 o_rep (op_own (by rfl) L.sf_Ratio (c_RatioD_mulD (K := K) L) hr (by decide) passF)) (pe_op (op_or2 o_rep (op_own (by rfl) L.sf_Ratio (c_RatioD_mulD (K := K) L) hr (by decide) passF)) (pe_ix (ix_seqK (K := K) rfl) (pv 0) pe_int (fun _ _ => rfl)) (pv 4)) (pv 4))) (pv 4))))))))), ?_⟩
  rw [show L2.start (["numbers", "shares", "squares", "share", "first", "second", "third", "square"] : List Str) [a, b] = [some a, some b, none, none, none, none, none, none] from rfl]
  obtain ⟨gn, gs, xn, xs, N, T, wn, w, rfl, rfl, hN, hS, l3, hn, wn0, w0, bN, bwn, bT, bw, k⟩ := h
  obtain ⟨y0, y1, y2, rfl⟩ := three_ex l3
  obtain ⟨n0, rfl, f0⟩ := hN.2 0 y0 rfl
  obtain ⟨n1, rfl, f1⟩ := hN.2 1 y1 rfl
  obtain ⟨n2, rfl, f2⟩ := hN.2 2 y2 rfl
  have hN1 := hN.1
  have bw2 : Bits 24 (w * w) := bw.mul bw
  have ww0 : 0 < w * w := Int.mul_pos w0 w0
  have www0 : 0 < w * w * w := Int.mul_pos ww0 w0
  try dsimp only [List.set]
  walk_at "zz"
  refine z_lcO (a := gs) (itF K (fun k => T k * T k) (w * w)) itF_mono rfl hS.1 (by omega) (fun i x H2 N2 hx s2 cc => ⟨rfl, ?_⟩) (fun D HD hD sD hlD => ?_)
  · obtain ⟨a, rfl, hr⟩ := hS.2 i x hx
    try dsimp only [List.set]
    walk_at "zz"
    exact u_fmul (hr.mono s2) (hr.mono s2) w0 w0 (bT i) (bT i) bw bw (by decide) (by decide) (fun z H4 s4 hz => cc _ _ s4 ⟨z, rfl, hz⟩)
  obtain ⟨qs, hQ, hq1, hql⟩ := FS.ls hlD
  try dsimp only [List.set]
  walk_at "zz"
  refine ⟨_, rfl, gs, xs, T, w, 60, 12, rfl, hS.mono sD, w0, bw, by decide, bT, by decide, hn, fun r1 H1 s1 h1 => ?_⟩
  try dsimp only [List.set]
  walk_at "zz"
  refine ⟨_, rfl, D, qs, _, _, 120, 24, rfl, hQ.mono s1, ww0, bw2, by decide, fun k => (bT k).mul (bT k), by decide, by omega, fun r2 H2 s2 h2 => ?_⟩
  rw [hql] at h2
  try dsimp only [List.set]
  walk_at "zz"
  have hS2 := (hS.mono sD).mono s1 |>.mono s2
  have hQ2 := (hQ.mono s1).mono s2
  obtain ⟨ka, hka⟩ := hQ2.1.k
  obtain ⟨kb, hkb⟩ := hS2.1.k
  refine z_lcMP (k1 := ka) (k2 := kb) (itF K (fun k => T k * T k * T k) (w * w * w)) itF_mono hka hkb rfl (by omega) (fun i x y H4 N4 hx hy s4 cc => ⟨rfl, ?_⟩) (fun D3 HD3 hD3 sD3 hlD3 => ?_)
  · obtain ⟨a, rfl, hr⟩ := hQ2.2 i x hx
    obtain ⟨a', rfl, hr'⟩ := hS2.2 i y hy
    try dsimp only [List.set]
    walk_at "zz"
    exact u_fmul (B := 120) (C := 24) (hr.mono s4) (hr'.mono s4) ww0 w0 ((bT i).mul (bT i)) ((bT i).up (by decide)) bw2 (bw.up (by decide)) (by decide) (by decide) (fun z H5 s5 hz => cc _ _ s5 ⟨z, rfl, hz⟩)
  obtain ⟨cs, hC3, hc1, hcl⟩ := FS.ls hlD3
  have lq : cs.length = xs.length := by omega
  try dsimp only [List.set]
  walk_at "zz"
  refine ⟨_, rfl, D3, cs, _, _, 180, 36, rfl, hC3, www0, bw2.mul bw, by decide, fun k => ((bT k).mul (bT k)).mul (bT k), by decide, by omega, fun r3 H3 s3 h3 => ?_⟩
  rw [lq] at h3
  have st : Same H H3 := (((sD.trans s1).trans s2).trans sD3).trans s3
  have hN3 := hN1.mono st
  have f0 := f0.mono st
  have f1 := f1.mono st
  have f2 := f2.mono st
  have h1 := ((h1.mono s2).mono sD3).mono s3
  have h2 := (h2.mono sD3).mono s3
  have b1 := sm_bits bT hn
  have b2 := sm_bits (T := fun k => T k * T k) (fun k => (bT k).mul (bT k)) hn
  have b3 := sm_bits (T := fun k => T k * T k * T k) (fun k => ((bT k).mul (bT k)).mul (bT k)) hn
  have bw3 : Bits 36 (w * w * w) := bw2.mul bw
  unfold six at k
  generalize sm T xs.length = S1 at *
  generalize sm (fun k => T k * T k) xs.length = S2 at *
  generalize sm (fun k => T k * T k * T k) xs.length = S3 at *
  try dsimp only [List.set]
  walk_at "zz"
  refine z_ixS hN3 rfl ?_
  try dsimp only [List.set]
  walk_at "zz"
  refine u_fmul (B := 1000) (C := 200) f0 h3 wn0 www0 ((bN 0).up (by decide)) (b3.up (by decide)) (bwn.up (by decide)) (bw3.up (by decide)) (by decide) (by decide) (fun p1 Ha sa g1 => ?_)
  try dsimp only [List.set]
  walk_at "zz"
  refine z_ixS (hN3.mono sa) rfl ?_
  try dsimp only [List.set]
  walk_at "zz"
  refine u_fmul (B := 1000) (C := 200) (f1.mono sa) (h2.mono sa) wn0 ww0 ((bN 1).up (by decide)) (b2.up (by decide)) (bwn.up (by decide)) (bw2.up (by decide)) (by decide) (by decide) (fun p2 Hb sb g2 => ?_)
  try dsimp only [List.set]
  walk_at "zz"
  have sab := sa.trans sb
  refine z_ixS (hN3.mono sab) rfl ?_
  try dsimp only [List.set]
  walk_at "zz"
  refine u_fmul (B := 1000) (C := 200) (f2.mono sab) (h1.mono sab) wn0 w0 ((bN 2).up (by decide)) (b1.up (by decide)) (bwn.up (by decide)) (bw.up (by decide)) (by decide) (by decide) (fun p3 Hc sc g3 => ?_)
  have bn3 : Bits 200 (N 2 * S1) := (bN 2).mul b1
  have bd3 : Bits 22 (wn * w) := bwn.mul bw
  try dsimp only [List.set]
  walk_at "zz"
  refine u_fmul (B := 1000) (C := 200) g3 ((h1.mono sab).mono sc) (Int.mul_pos wn0 w0) w0 (bn3.up (by decide)) (b1.up (by decide)) (bd3.up (by decide)) (bw.up (by decide)) (by decide) (by decide) (fun p4 Hd sd g4 => ?_)
  have wq0 : 0 < wn * (w * w) := Int.mul_pos wn0 ww0
  have g4' : Fr K Hd p4 (N 2 * S1 * S1) (wn * (w * w)) := g4.cast (Int.mul_pos (Int.mul_pos wn0 w0) w0) (by grind)
  have g2' := (g2.mono sc).mono sd
  have bd2 : Bits 34 (wn * (w * w)) := bwn.mul bw2
  have bn2 : Bits 270 (N 1 * S2) := Bits.up ((bN 1).mul b2) (by decide)
  have bn4 : Bits 270 (N 2 * S1 * S1) := Bits.up (bn3.mul b1) (by decide)
  try dsimp only [List.set]
  walk_at "zz"
  refine u_fadd (B := 1000) (C := 200) g2' g4' wq0 wq0 (bn2.up (by decide)) (bn4.up (by decide)) (bd2.up (by decide)) (bd2.up (by decide)) (by decide) (by decide) (fun p5 He' se g5 => ?_)
  have g5' : Fr K He' p5 (N 1 * S2 + N 2 * S1 * S1) (wn * (w * w)) := g5.cast (Int.mul_pos wq0 wq0) (by grind)
  have bn5 : Bits 271 (N 1 * S2 + N 2 * S1 * S1) := Bits.add bn2 bn4
  have h1' := ((((h1.mono sab).mono sc).mono sd).mono se)
  try dsimp only [List.set]
  walk_at "zz"
  refine u_fmul (B := 1000) (C := 200) g5' h1' wq0 w0 (bn5.up (by decide)) (b1.up (by decide)) (bd2.up (by decide)) (bw.up (by decide)) (by decide) (by decide) (fun p6 Hf sf g6 => ?_)
  have wt0 : 0 < wn * (w * w * w) := Int.mul_pos wn0 www0
  have g6' : Fr K Hf p6 ((N 1 * S2 + N 2 * S1 * S1) * S1) (wn * (w * w * w)) := g6.cast (Int.mul_pos wq0 w0) (by grind)
  have g1' := ((((g1.mono sb).mono sc).mono sd).mono se).mono sf
  have bd6 : Bits 46 (wn * (w * w * w)) := bwn.mul bw3
  try dsimp only [List.set]
  walk_at "zz"
  refine u_fadd (B := 1000) (C := 200) g1' g6' wt0 wt0 (Bits.up ((bN 0).mul b3) (by decide)) (Bits.up (bn5.mul b1) (by decide)) (bd6.up (by decide)) (bd6.up (by decide)) (by decide) (by decide) (fun p7 Hg sg g7 => ?_)
  exact k p7 Hg ((((((st.trans sab).trans sc).trans sd).trans se).trans sf).trans sg) (g7.cast (Int.mul_pos wt0 wt0) (by grind))
theorem c_six_value (L : Lw K mg) : Cal P w K mg base 4 "six_value" (sp2 (fs_sv K)) [] := by
  obtain ⟨fd, F⟩ := L.d_six_value
  exact ⟨⟨_, fd, ["numbers", "shares"], [], ok_six_value L F, L.g_six_value, F.kp, F.bindsN (fun _ _ _ _ _ _ us hl => match us, hl with | [_, _], _ => rfl), .nil⟩⟩
theorem ok_six_of_shares (L : Lw K mg) {fd : FuncData} (F : FunD K "six_of_shares" "six_of_shares" (defArgs s_six_of_shares) (defBody s_six_of_shares) (defScope s_six_of_shares) (df_six_of_shares.dvs K) (df_six_of_shares.kws K) (He.fAd K ("six_of_shares", none)) fd) : FnOk P w K mg base (L2N.CX P w) 5 (He.fAd K ("six_of_shares", none)) fd (["numbers", "shares"] : List Str) (sp2 (fs_six K)) := by
  refine FunD.ok F sc_six_of_shares len2 (fun cdv A outer s H vs Q E hr h => ?_)
  obtain ⟨a, b, rfl, h⟩ := h
  refine ⟨_, (pss_cons (ps_expr (pe_c (c_check_size (K := K) L) hr (by decide) (L2N.takes_of rfl rfl rfl rfl) (pa_cons (pv 0) (pa_cons pe_int (pa_cons pe_int pa_nil)))))
    (pss_cons (ps_expr (pe_c (c_check_shares (K := K) L) hr (by decide) (L2N.takes_of rfl rfl rfl rfl) (pa_cons (pv 1) pa_nil)))
    (pss_one (ps_ret (pe_c (c_six_value (K := K) L) hr (by decide) (L2N.takes_of rfl rfl rfl rfl) (pa_cons (pv 0) (pa_cons (pv 1) pa_nil))))))), ?_⟩
  obtain ⟨gn, gs, xn, xs, N, T, wn, w, rfl, rfl, hN, hS, wn0, w0, bN, bwn, bT, bw, k1, k2, k3, k4⟩ := h
  walk_at "zz"
  refine ⟨_, _, _, rfl, gn, xn, 3, 3, rfl, rfl, rfl, hN.1, fun hs => ?_, fun hs d H' s hd => k1 (by omega) d H' s hd⟩
  have l3 : xn.length = 3 := by omega
  walk_at "zz"
  refine ⟨_, rfl, gs, xs, T, w, rfl, hS, w0, fun m1 m2 nn => ?_, fun hs d H' s hd => k2 l3 hs d H' s hd, fun m1 m2 j x hx hj hj2 d H' s hd => k3 l3 m1 m2 j x hx hj hj2 d H' s hd⟩
  walk_at "zz"
  exact ⟨_, _, rfl, gn, gs, xn, xs, N, T, wn, w, rfl, rfl, hN, hS, l3, by omega, wn0, w0, bN, bwn, bT, bw, fun x H' s hx => k4 l3 m1 m2 nn x H' s hx⟩
theorem c_six_of_shares (L : Lw K mg) : Cal P w K mg base 5 "six_of_shares" (sp2 (fs_six K)) [] := by
  obtain ⟨fd, F⟩ := L.d_six_of_shares
  exact ⟨⟨_, fd, ["numbers", "shares"], [], ok_six_of_shares L F, L.g_six_of_shares, F.kp, F.bindsN (fun _ _ _ _ _ _ us hl => match us, hl with | [_, _], _ => rfl), .nil⟩⟩
theorem ok_exchanged (L : Lw K mg) {fd : FuncData} (F : FunD K "exchanged" "exchanged" (defArgs s_exchanged) (defBody s_exchanged) (defScope s_exchanged) (df_exchanged.dvs K) (df_exchanged.kws K) (He.fAd K ("exchanged", none)) fd) : FnOk P w K mg base (L2N.CX P w) 5 (He.fAd K ("exchanged", none)) fd (["shares", "i", "j"] : List Str) (sp3 (fs_exch K)) := by
  refine FunD.ok F sc_exchanged len3 (fun cdv A outer s H vs Q E hr h => ?_)
  obtain ⟨a, b, c, rfl, h⟩ := h
  refine ⟨_, (pss_cons (ps_expr (pe_c (c_check_shares (K := K) L) hr (by decide) (L2N.takes_of rfl rfl rfl rfl) (pa_cons (pv 0) pa_nil)))
    (pss_cons (ps_expr (pe_c (c_check_number (K := K) L) hr (by decide) (L2N.takes_of rfl rfl rfl rfl) (pa_cons (pv 1) (pa_cons pe_int (pa_cons (pe_op o_sub (pe_callB (callK rLen1 (K := K) rfl o_len) (by rfl) L.f_len (by decide +kernel) (pa_cons (pv 0) pa_nil)) pe_int) pa_nil)))))
    (pss_cons (ps_expr (pe_c (c_check_number (K := K) L) hr (by decide) (L2N.takes_of rfl rfl rfl rfl) (pa_cons (pv 2) (pa_cons pe_int (pa_cons (pe_op o_sub (pe_callB (callK rLen1 (K := K) rfl o_len) (by rfl) L.f_len (by decide +kernel) (pa_cons (pv 0) pa_nil)) pe_int) pa_nil)))))
    (pss_cons (ps_if (pt_cmpR op_eq (pv 2) (pv 1) (nomark _)) (pss_one (L2N.ps_raise rfl (L2N.takes_of rfl rfl rfl rfl) (pmk_x (c_OutOfBoundsD_initD (K := K) L) hr (by decide) passF (pa_cons (pv 2) pa_nil)))) pss_nil)
    (pss_cons (ps_set (i := 3) sc_exchanged.nd rfl (by first | exact Or.inl rfl | exact Or.inr rfl) (pe_op (op_or2 o_cat (op_own (by rfl) L.sf_Ratio (c_RatioD_addD (K := K) L) hr (by decide) passF)) (pe_ix (ix_seqK (K := K) rfl) (pv 0) (pv 1) (fun _ _ => rfl)) (pe_ix (ix_seqK (K := K) rfl) (pv 0) (pv 2) (fun _ _ => rfl))))
    (pss_cons (ps_set (i := 4) sc_exchanged.nd rfl (by first | exact Or.inl rfl | exact Or.inr rfl) (pe_callTy (callK rList1 (K := K) rfl o_list1) (by rfl) L.f_list (by decide +kernel) (pa_cons (pv 0) pa_nil)))
    (pss_cons (ps_asg2 (pe_op (op_or2 o_rep (op_own (by rfl) L.sf_Ratio (c_RatioD_mulD (K := K) L) hr (by decide) passF)) (pv 3) (pe_mk (c_RatioD_initD (K := K) L) hr (by decide) (L2N.takes_of rfl rfl rfl rfl) (pa_cons pe_int (pa_cons pe_int pa_nil)))) (pg_sub (pv 4) (pv 1) set_list) (pg_sub (pv 4) (pv 2) set_list))
    (pss_cons (ps_set (i := 5) sc_exchanged.nd rfl (by first | exact Or.inl rfl | exact Or.inr rfl) (pe_callTy (callK rList1 (K := K) rfl o_list1) (by rfl) L.f_list (by decide +kernel) (pa_cons (pv 0) pa_nil)))
    (pss_cons (ps_asg (pe_mk (c1_RatioD_initD (K := K) L) hr (by decide) (L2N.takes_of rfl rfl rfl rfl) (pa_cons pe_int pa_nil)) (pg_sub (pv 5) (pv 1) set_list))
    (pss_cons (ps_asg (pv 3) (pg_sub (pv 5) (pv 2) set_list))
    (pss_one (ps_ret (pe_tup (pa_cons (pv 4) (pa_cons (pv 5) pa_nil))))))))))))))), ?_⟩
  rw [show L2.start (["shares", "i", "j", "total", "halves", "moved"] : List Str) [a, b, c] = [some a, some b, some c, none, none, none] from rfl]
  obtain ⟨g, xs, T, w, i, j, rfl, rfl, rfl, hS, w0, bT, bw, k1, k2, k3⟩ := h
  try dsimp only [List.set]
  walk_at "zz"
  refine ⟨_, rfl, g, xs, T, w, rfl, hS, w0, fun m1 m2 nn => ?_, fun hs d H' s hd => k1 hs d H' s hd, fun m1 m2 j x hx hj hj2 d H' s hd => k2 m1 m2 j x hx hj hj2 d H' s hd⟩
  obtain ⟨k3, k4, k5⟩ := k3 m1 m2 nn
  try dsimp only [List.set]
  walk_at "zz"
  refine z_lenS hS.1 ?_
  try dsimp only [List.set]
  walk_at "zz"
  refine ⟨_, _, _, rfl, i, 0, rfl, rfl, .inr ⟨_, rfl⟩, fun hs => ?_, fun hs d H' s hd => k3 (fun z => hs ⟨z.1, fun h e => by cases e; omega⟩) d H' s hd⟩
  have i0 := hs.1
  have i1 := hs.2 _ rfl
  try dsimp only [List.set]
  walk_at "zz"
  refine z_lenS hS.1 ?_
  try dsimp only [List.set]
  walk_at "zz"
  refine ⟨_, _, _, rfl, j, 0, rfl, rfl, .inr ⟨_, rfl⟩, fun hs => ?_, fun hs d H' s hd => k4 i0 (by omega) (fun z => hs ⟨z.1, fun h e => by cases e; omega⟩) d H' s hd⟩
  have j0 := hs.1
  have j1 := hs.2 _ rfl
  try dsimp only [List.set]
  walk_at "zz"
  refine z_d2 (fun cc => ?_) (fun cc => ?_)
  · try dsimp only [List.set]
    walk_at "zz"
    exact z_exo1 (k4 i0 (by omega) (fun z => z.2.2 cc))
  have k5 := k5 i0 (by omega) j0 (by omega) cc
  obtain ⟨x, hx, ex⟩ := at_ref (xs := xs) i0 (by omega)
  obtain ⟨y, hy, ey⟩ := at_ref (xs := xs) j0 (by omega)
  obtain ⟨a, rfl, fa⟩ := hS.2 _ _ hx
  obtain ⟨b, rfl, fb⟩ := hS.2 _ _ hy
  try dsimp only [List.set]
  walk_at "zz"
  refine z_ixS hS.1 ex ?_
  try dsimp only [List.set]
  walk_at "zz"
  refine z_ixS hS.1 ey ?_
  try dsimp only [List.set]
  walk_at "zz"
  refine u_fadd fa fb w0 w0 (bT _) (bT _) bw bw (by decide) (by decide) (fun pt H1 s1 ft => ?_)
  have wv0 : 0 < w * w := Int.mul_pos w0 w0
  have ft1 : Fr K H1 pt (T i.toNat + T j.toNat) w := ft.cast wv0 (by grind)
  have ft2 : Fr K H1 pt (2 * (T i.toNat + T j.toNat)) (2 * w) := ft.cast wv0 (by grind)
  try dsimp only [List.set]
  walk_at "zz"
  refine z_listS (hS.1.mono s1) (fun h H2 hh s2 eh => ?_)
  try dsimp only [List.set]
  walk_at "zz"
  refine u_mkF (T := 1) (w := 2) (by decide) (Bits.up (Bits.small (n := 3) (by decide) (by decide)) (by decide)) (by decide) (fun p2 H3 s3 f2 => ?_)
  refine u_fmul (B := 61) (C := 12) ((ft1.mono s2).mono s3) f2 w0 (by decide) (Bits.add (bT _) (bT _)) (Bits.up (Bits.small (n := 2) (by decide) (by decide)) (by decide)) bw (Bits.up (Bits.small (n := 3) (by decide) (by decide)) (by decide)) (by decide) (by decide) (fun pv H4 s4 fv => ?_)
  have w20 : 0 < w * 2 := by omega
  have fv : Fr K H4 pv (T i.toNat + T j.toNat) (2 * w) := fv.cast w20 (by grind)
  have hi : i.toNat < xs.length := by omega
  have hj : j.toNat < xs.length := by omega
  have hh0 : H h = none := Same.none s1 hh
  have eh4 := s4 _ _ (s3 _ _ eh)
  try dsimp only [List.set]
  walk_at "zz"
  refine z_setL (j := i.toNat) eh4 (by omega) hi ?_
  try dsimp only [List.set]
  walk_at "zz"
  refine z_setL (j := j.toNat) upd_same (by omega) (by rw [List.length_set]; exact hj) ?_
  have s0 : Same H (upd (upd H4 h (.lst (xs.set i.toNat (.ref pv)))) h (.lst ((xs.set i.toNat (.ref pv)).set j.toNat (.ref pv)))) := Same.put (Same.put (((s1.trans s2).trans s3).trans s4) hh0) hh0
  have n4 : SameN H4 (upd (upd H4 h (.lst (xs.set i.toNat (.ref pv)))) h (.lst ((xs.set i.toNat (.ref pv)).set j.toNat (.ref pv)))) := (SameN.put eh4).trans (SameN.put upd_same)
  have eh5 : (upd (upd H4 h (.lst (xs.set i.toNat (.ref pv)))) h (.lst ((xs.set i.toNat (.ref pv)).set j.toNat (.ref pv)))) h = some (.lst ((xs.set i.toNat (.ref pv)).set j.toNat (.ref pv))) := upd_same
  generalize (upd (upd H4 h (.lst (xs.set i.toNat (.ref pv)))) h (.lst ((xs.set i.toNat (.ref pv)).set j.toNat (.ref pv)))) = H5 at *
  have fv5 := fv.monoN n4
  have ft5 := (((ft2.mono s2).mono s3).mono s4).monoN n4
  try dsimp only [List.set]
  walk_at "zz"
  refine z_listS (hS.1.mono s0) (fun m H6 hm s6 em => ?_)
  have hm0 : H m = none := Same.none s0 hm
  have hmh : h ≠ m := fun e => by
    rw [e] at eh5
    rw [eh5] at hm
    cases hm
  try dsimp only [List.set]
  walk_at "zz"
  refine u_mkF1 (fun p0 H7 s7 f0 => ?_)
  have em7 := s7 _ _ em
  try dsimp only [List.set]
  walk_at "zz"
  refine z_setL (j := i.toNat) em7 (by omega) hi ?_
  try dsimp only [List.set]
  walk_at "zz"
  refine z_setL (j := j.toNat) upd_same (by omega) (by rw [List.length_set]; exact hj) ?_
  have s8 : Same H (upd (upd H7 m (.lst (xs.set i.toNat (.ref p0)))) m (.lst ((xs.set i.toNat (.ref p0)).set j.toNat (.ref pt)))) := Same.put (Same.put ((s0.trans s6).trans s7) hm0) hm0
  have n8 : SameN H7 (upd (upd H7 m (.lst (xs.set i.toNat (.ref p0)))) m (.lst ((xs.set i.toNat (.ref p0)).set j.toNat (.ref pt)))) := (SameN.put em7).trans (SameN.put upd_same)
  have em8 : (upd (upd H7 m (.lst (xs.set i.toNat (.ref p0)))) m (.lst ((xs.set i.toNat (.ref p0)).set j.toNat (.ref pt)))) m = some (.lst ((xs.set i.toNat (.ref p0)).set j.toNat (.ref pt))) := upd_same
  have eh8 : (upd (upd H7 m (.lst (xs.set i.toNat (.ref p0)))) m (.lst ((xs.set i.toNat (.ref p0)).set j.toNat (.ref pt)))) h = some (.lst ((xs.set i.toNat (.ref pv)).set j.toNat (.ref pv))) := by
    rw [upd_ne hmh, upd_ne hmh]
    exact s7 _ _ (s6 _ _ eh5)
  generalize (upd (upd H7 m (.lst (xs.set i.toNat (.ref p0)))) m (.lst ((xs.set i.toNat (.ref p0)).set j.toNat (.ref pt)))) = H8 at *
  have fv8 := ((fv5.mono s6).mono s7).monoN n8
  have ft8 := ((ft5.mono s6).mono s7).monoN n8
  have f08 : Fr K H8 p0 0 (2 * w) := (f0.monoN n8).cast (by decide) (by rw [Int.zero_mul, Int.zero_mul])
  try dsimp only [List.set]
  walk_at "zz"
  rename_i tt Ht htt stt ett
  have old : ∀ k x, xs[k]? = some x → itF K (fun k => 2 * T k) (2 * w) Ht x k := fun k x hx => by
    obtain ⟨a, rfl, f⟩ := hS.2 k x hx
    exact ⟨a, rfl, ((f.mono s8).mono stt).cast w0 (by grind)⟩
  refine k5 tt h m Ht _ _ hh0 hm0 hmh (s8.trans stt) ett ⟨.inl (stt _ _ eh8), fun k x hx => ?_⟩ (stt _ _ eh8) (by simp) ⟨.inl (stt _ _ em8), fun k x hx => ?_⟩ (stt _ _ em8) (by simp)
  · rcases set2_at hi hj hx with ⟨e, rfl⟩ | ⟨e1, e, rfl⟩ | ⟨e1, e2, hx⟩
    · refine ⟨_, rfl, ?_⟩
      unfold halv
      rw [if_pos e]
      exact fv8.mono stt
    · refine ⟨_, rfl, ?_⟩
      unfold halv
      rw [if_neg e1, if_pos e]
      exact fv8.mono stt
    · obtain ⟨a, rfl, f⟩ := old k x hx
      refine ⟨_, rfl, ?_⟩
      unfold halv
      rw [if_neg e1, if_neg e2]
      exact f
  · rcases set2_at hi hj hx with ⟨e, rfl⟩ | ⟨e1, e, rfl⟩ | ⟨e1, e2, hx⟩
    · refine ⟨_, rfl, ?_⟩
      unfold movd
      rw [if_pos e]
      exact ft8.mono stt
    · refine ⟨_, rfl, ?_⟩
      unfold movd
      rw [if_neg e1, if_pos e]
      exact f08.mono stt
    · obtain ⟨a, rfl, f⟩ := old k x hx
      refine ⟨_, rfl, ?_⟩
      unfold movd
      rw [if_neg e1, if_neg e2]
      exact f
theorem c_exchanged (L : Lw K mg) : Cal P w K mg base 5 "exchanged" (sp3 (fs_exch K)) [] := by
  obtain ⟨fd, F⟩ := L.d_exchanged
  exact ⟨⟨_, fd, ["shares", "i", "j"], [], ok_exchanged L F, L.g_exchanged, F.kp, F.bindsN (fun _ _ _ _ _ _ us hl => match us, hl with | [_, _, _], _ => rfl), .nil⟩⟩
theorem ck_exchanged_0_j_shares_i (L : Lw K mg) : CalK P w K mg base 5 "exchanged" (sp3 (fs_exch K)) 0 ["j", "shares", "i"] (fun vs zs => vs ++ (zs.drop 1 ++ zs.take 1)) := by
  obtain ⟨fd, F⟩ := L.d_exchanged
  exact ⟨⟨_, fd, ["shares", "i", "j"], _, ok_exchanged L F, L.g_exchanged, F.kp, (kbR F (ps := ["shares", "i", "j"]) 0 ["j", "shares", "i"] (fun _ _ _ _ _ _ us ws hl hw => match us, ws, hl, hw with | [], [_, _, _], _, _ => rfl))⟩⟩
end
end T
set_option maxHeartbeats 4000000
namespace T
open PySem PySem.Spec PyProof.Rows L2 Z
open S31 (cf)
open S30
def fs_cell : F2 := fun a b H Q _ => ∃ (p : Addr) (k : Int), a = .ref p ∧ b = .int k ∧ IsPool H p ∧ 0 ≤ k ∧ ∀ c, Q (.int c) H
theorem u_cell {H : Hp} {Q : VK} {E : XK} {p : Addr} {k : Int} (h : IsPool H p) (h0 : 0 ≤ k) (q : ∀ c, Q (.int c) H) : sp2 fs_cell [.ref p, .int k] H Q E := ⟨_, _, rfl, p, k, rfl, rfl, h, h0, q⟩
def fs_draw : F4 := fun a b c d H Q _ => ∃ (p : Addr) (k s m : Int), a = .ref p ∧ b = .int k ∧ c = .int s ∧ d = .int m ∧ IsPool H p ∧ 0 ≤ k ∧ 0 < s ∧ s < 1000 ∧ 0 < m ∧ ∀ r, 0 ≤ r → r < m → Q (.int r) H
theorem u_draw {H : Hp} {Q : VK} {E : XK} {p : Addr} {k s m : Int} (h : IsPool H p) (h0 : 0 ≤ k) (h1 : 0 < s) (h2 : s < 1000) (h3 : 0 < m) (q : ∀ r, 0 ≤ r → r < m → Q (.int r) H) : sp4 fs_draw [.ref p, .int k, .int s, .int m] H Q E := ⟨_, _, _, _, rfl, p, k, s, m, rfl, rfl, rfl, rfl, h, h0, h1, h2, h3, q⟩
def fs_many : F1 := fun a H Q _ => ∃ p, a = .ref p ∧ IsPool H p ∧ ∀ m : Int, 2 ≤ m → m ≤ 200 → Q (.int m) H
def fs_whole1 : F1 := fun x H Q _ => ∃ i : Int, x = .int i ∧ Q (.bl true) H
theorem u_whole1 {H : Hp} {Q : VK} {E : XK} {i : Int} (q : Q (.bl true) H) : sp1 fs_whole1 [.int i] H Q E := ⟨_, rfl, i, rfl, q⟩
def fs_flag : F2 := fun x y H Q _ => ∃ b : Bool, x = .bl b ∧ y = .bl b ∧ Q (.bl true) H
theorem u_flag {H : Hp} {Q : VK} {E : XK} {r b : Bool} (e : r = b) (q : Q (.bl true) H) : sp2 fs_flag [.bl r, .bl b] H Q E := by
  subst e
  exact ⟨_, _, rfl, r, rfl, rfl, q⟩
theorem z_eqB {b : Bool} {H : Hp} {Q : VK} (q : Q (.bl true) H) : rEq (.bl b) (.bl b) H Q := ⟨rfl, by rw [decide_eq_true rfl]; exact q⟩
theorem z_isB {K : Frag} {b : Bool} {H : Hp} {Q : VK} (q : Q (.bl true) H) : rIsi K [.bl b, .ty "bool"] H Q := z_isiB (by decide +kernel) q
theorem z_isLst {K : Frag} {a : Addr} {xs : List V} {H : Hp} {Q : VK} (h : H a = some (.lst xs)) (q : Q (.bl true) H) : rIsi K [.ref a, .ty "list"] H Q := z_isi (.ty "list") (.base (.lst h)) (kit_ty (by decide +kernel)) q
theorem z_isTup {K : Frag} {a : Addr} {xs : List V} {H : Hp} {Q : VK} (h : H a = some (.tup xs)) (q : Q (.bl true) H) : rIsi K [.ref a, .ty "tuple"] H Q := z_isi (.ty "tuple") (.base (.tup h)) (kit_ty (by decide +kernel)) q
def fs_frac (K : Frag) : F1 := fun x H Q _ => ∃ (a : Addr) (T w : Int), x = .ref a ∧ Fr K H a T w ∧ Q (.bl true) H
def fs_is (K : Frag) : F3 := fun x y z H Q _ => ∃ (a : Addr) (T w t b : Int), x = .ref a ∧ y = .int t ∧ z = .int b ∧ Fr K H a T w ∧ 0 < w ∧ Bits 400 T ∧ Bits 400 w ∧ Bits 400 t ∧ Bits 400 b ∧ T * b = t * w ∧ Q (.bl true) H
theorem u_is {K : Frag} {H : Hp} {Q : VK} {E : XK} {a : Addr} {T w t b : Int} (h : Fr K H a T w) (w0 : 0 < w) (bT : Bits 400 T) (bw : Bits 400 w) (bt : Bits 400 t) (bb : Bits 400 b) (e : T * b = t * w) (q : Q (.bl true) H) : sp3 (fs_is K) [.ref a, .int t, .int b] H Q E := ⟨_, _, _, rfl, a, T, w, t, b, rfl, rfl, rfl, h, w0, bT, bw, bt, bb, e, q⟩
def fs_list (K : Frag) : F3 := fun x y z H Q _ => ∃ (g p : Addr) (xs : List V) (ts : List Int) (T : Nat → Int) (w low : Int), x = .ref g ∧ y = .ref p ∧ z = .int low ∧ FS K H g xs T w ∧ H g = some (.lst xs) ∧ H p = some (.lst (ts.map V.int)) ∧ xs.length = ts.length ∧ xs.length ≤ 1000 ∧ 0 < w ∧ (∀ k, Bits 60 (T k)) ∧ Bits 60 w ∧ (∀ k, Bits 60 (cf ts k)) ∧ Bits 60 low ∧ (∀ k, k < xs.length → T k * low = cf ts k * w) ∧ ∀ H', Same H H' → Q (.bl true) H'
def fs_shares (K : Frag) : F2 := fun x y H Q _ => ∃ (p : Addr) (ts : List Int) (low : Int), x = .ref p ∧ y = .int low ∧ H p = some (.lst (ts.map V.int)) ∧ ts.length ≤ 1000 ∧ 0 < low ∧ Bits 60 low ∧
  ∀ g xs H', H g = none → Same H H' → FS K H' g xs (cf ts) low → H' g = some (.lst xs) → xs.length = ts.length → Q (.ref g) H'
def fs_lsix : F2 := fun x y H Q _ => ∃ (p q : Addr) (A B C : Int) (ts : List Int), x = .ref p ∧ y = .ref q ∧ H p = some (.lst [.int A, .int B, .int C]) ∧ H q = some (.lst (ts.map V.int)) ∧ ts.length ≤ 1000 ∧ Bits 130 A ∧ Bits 130 B ∧ Bits 130 C ∧ (∀ k, Bits 60 (cf ts k)) ∧ ∀ H', Same H H' → Q (.int (S63.six A B C ts)) H'
theorem sum_s1 : ∀ ts : List Int, ts.sum = S63.s1 ts
  | [] => rfl
  | x :: l => by rw [List.sum_cons, S63.s1, sum_s1 l]
theorem sum_s2 : ∀ ts : List Int, (ts.map fun x => x * x).sum = S63.s2 ts
  | [] => rfl
  | x :: l => by rw [List.map_cons, List.sum_cons, S63.s2, sum_s2 l]
theorem sum_s3 : ∀ ts : List Int, (ts.map fun x => x * x * x).sum = S63.s3 ts
  | [] => rfl
  | x :: l => by rw [List.map_cons, List.sum_cons, S63.s3, sum_s3 l]
theorem sm_shift (T : Nat → Int) : ∀ n, sm T (n + 1) = T 0 + sm (fun k => T (k + 1)) n
  | 0 => by simp [sm]
  | n + 1 => by
    rw [sm, sm_shift T n, sm]
    omega
theorem sm_list (f : Int → Int) : ∀ ts : List Int, sm (fun k => f (cf ts k)) ts.length = (ts.map f).sum
  | [] => rfl
  | x :: l => by
    rw [List.length_cons, sm_shift, List.map_cons, List.sum_cons]
    have e : sm (fun k => f (cf (x :: l) (k + 1))) l.length = (l.map f).sum := sm_list f l
    rw [e]
    rfl
theorem sm_congr {T U : Nat → Int} : ∀ {n : Nat}, (∀ k, k < n → T k = U k) → sm T n = sm U n
  | 0, _ => rfl
  | n + 1, h => by rw [sm, sm, h n (Nat.lt_succ_self n), sm_congr fun k hk => h k (Nat.lt_succ_of_lt hk)]
theorem six_list {N : Nat → Int} {T : Nat → Int} {ts : List Int} (h : ∀ k, k < ts.length → T k = cf ts k) : six N T ts.length = S63.six (N 0) (N 1) (N 2) ts := by
  have e1 : sm T ts.length = S63.s1 ts := by
    rw [sm_congr h]
    have := sm_list (fun x => x) ts
    rw [List.map_id'] at this
    exact this.trans (sum_s1 ts)
  have e2 : sm (fun k => T k * T k) ts.length = S63.s2 ts := by
    rw [sm_congr (U := fun k => cf ts k * cf ts k) fun k hk => by rw [h k hk]]
    exact (sm_list (fun x => x * x) ts).trans (sum_s2 ts)
  have e3 : sm (fun k => T k * T k * T k) ts.length = S63.s3 ts := by
    rw [sm_congr (U := fun k => cf ts k * cf ts k * cf ts k) fun k hk => by rw [h k hk]]
    exact (sm_list (fun x => x * x * x) ts).trans (sum_s3 ts)
  unfold six S63.six
  rw [e1, e2, e3]
theorem s_bits {ts : List Int} (h : ∀ k, Bits 60 (cf ts k)) (hn : ts.length ≤ 1000) : Bits 70 (S63.s1 ts) ∧ Bits 130 (S63.s2 ts) ∧ Bits 190 (S63.s3 ts) := by
  have e1 := sm_list (fun x => x) ts
  rw [List.map_id', sum_s1] at e1
  have e2 := (sm_list (fun x => x * x) ts).trans (sum_s2 ts)
  have e3 := (sm_list (fun x => x * x * x) ts).trans (sum_s3 ts)
  rw [← e1, ← e2, ← e3]
  exact ⟨sm_bits h hn, sm_bits (B := 120) (fun k => (h k).mul (h k)) hn, sm_bits (B := 180) (fun k => ((h k).mul (h k)).mul (h k)) hn⟩
theorem mem_cf {ts : List Int} {x : Int} (h : x ∈ ts) : ∃ k, k < ts.length ∧ cf ts k = x := by
  obtain ⟨k, hk, e⟩ := List.mem_iff_getElem.mp h
  exact ⟨k, hk, by rw [S31.cf_in hk, e]⟩
def fs_row (F : (Nat → Int) → Nat → Nat → Nat → Int) : F3 := fun x y z H Q _ => ∃ (p : Addr) (ts : List Int) (i j : Int), x = .ref p ∧ y = .int i ∧ z = .int j ∧ H p = some (.lst (ts.map V.int)) ∧ ts.length ≤ 1000 ∧ 0 ≤ i ∧ i < ts.length ∧ 0 ≤ j ∧ j < ts.length ∧
  ∀ q H' row, H q = none → Same H H' → H' q = some (.lst (row.map V.int)) → row.length = ts.length → (∀ k, cf row k = F (cf ts) i.toNat j.toNat k) → Q (.ref q) H'
theorem cf_set2 {ts : List Int} {i j : Nat} {u v : Int} (hi : i < ts.length) (hj : j < ts.length) (k : Nat) : cf ((ts.set i u).set j v) k = if k = j then v else if k = i then u else cf ts k := by
  rw [cf_set (by rw [List.length_set]; exact hj), cf_set hi]
theorem cf_map2 (ts : List Int) (k : Nat) : cf (ts.map fun x => 2 * x) k = 2 * cf ts k := S31.cf_map (g := fun x => 2 * x) rfl
theorem at_cf {ts : List Int} {i : Int} (h0 : 0 ≤ i) (h1 : i < ts.length) : atI (ts.map V.int) i = some (.int (cf ts i.toNat)) := at_int h0 (by rw [S31.cf_in (by omega)]; exact List.getElem?_eq_getElem (by omega))
def fs_both (K : Frag) : F5 := fun a b c d e H Q _ => ∃ (t h m p : Addr) (ys zs : List V) (ts : List Int) (low i j : Int), a = .ref t ∧ b = .ref p ∧ c = .int low ∧ d = .int i ∧ e = .int j ∧ H t = some (.tup [.ref h, .ref m]) ∧ H p = some (.lst (ts.map V.int)) ∧ ts.length ≤ 200 ∧ 0 ≤ i ∧ i < ts.length ∧ 0 ≤ j ∧ j < ts.length ∧ 0 < low ∧ Bits 40 low ∧ (∀ k, Bits 40 (cf ts k)) ∧
  FS K H h ys (halv (cf ts) i.toNat j.toNat) (2 * low) ∧ H h = some (.lst ys) ∧ ys.length = ts.length ∧ FS K H m zs (movd (cf ts) i.toNat j.toNat) (2 * low) ∧ H m = some (.lst zs) ∧ zs.length = ts.length ∧ ∀ H', Same H H' → Q (.bl true) H'
theorem halv_bits {T : Nat → Int} {B : Nat} (h : ∀ k, Bits B (T k)) (i j k : Nat) : Bits (B + 2) (halv T i j k) := by
  unfold halv
  split
  · exact Bits.up (Bits.add (h i) (h j)) (by omega)
  · split
    · exact Bits.up (Bits.add (h i) (h j)) (by omega)
    · exact Bits.up (Bits.mul (a := 2) (Bits.small (by decide) (by decide)) (h k)) (by omega)
theorem movd_bits {T : Nat → Int} {B : Nat} (h : ∀ k, Bits B (T k)) (i j k : Nat) : Bits (B + 3) (movd T i j k) := by
  unfold movd
  split
  · exact Bits.up (Bits.mul (a := 2) (Bits.small (by decide) (by decide)) (Bits.add (h i) (h j))) (by omega)
  · split
    · exact Bits.zero
    · exact Bits.up (Bits.mul (a := 2) (Bits.small (by decide) (by decide)) (h k)) (by omega)
/-! the readings' steps, as one word: walk_at "z" (one step), "zz" (as far as it goes), "up" (a fact carried here) -/
local macro_rules | `(tactic| walk_at "up") => `(tactic| first
  | assumption
  | (refine' IsR.mono (by assumption) ?zup; case zup => walk_at "up")
  | (refine' IsE.mono (by assumption) ?zup; case zup => walk_at "up")
  | (refine' Same.at (by assumption) ?zup; case zup => walk_at "up")
  | (refine' SqL.of ?zup; case zup => walk_at "up")
  | (refine' L2.Same.seq (by assumption) ?zup; case zup => walk_at "up"))
local macro_rules | `(tactic| walk_at "z") => `(tactic| first
  | ((with_reducible refine' z_var ?zvh ?_); (case zvh => exact rfl))
  | with_reducible refine z_c ?_
  | with_reducible refine z_cons ?_
  | with_reducible refine z_nil ?_
  | with_reducible refine z_op ?_
  | with_reducible refine z_nx ?_
  | with_reducible refine z_seq ?_
  | with_reducible refine z_asg ?_
  | with_reducible refine z_asgG ?_
  | with_reducible refine z_call ?_
  | with_reducible refine z_sq0 ?_
  | with_reducible refine z_sq1 ?_
  | with_reducible refine z_ifS ?_
  | with_reducible refine z_test ?_
  | with_reducible refine z_tb ?_
  | with_reducible refine z_bl ?_
  | with_reducible refine z_blI ?_
  | with_reducible refine z_ret ?_
  | with_reducible refine z_rt ?_
  | with_reducible refine z_T ?_
  | with_reducible refine z_F ?_
  | with_reducible refine z_add ?_
  | with_reducible refine z_sub ?_
  | with_reducible refine z_neg ?_
  | with_reducible refine z_un ?_
  | with_reducible refine z_eqI ?_
  | with_reducible refine z_neI ?_
  | with_reducible refine z_lt ?_
  | with_reducible refine z_le ?_
  | with_reducible refine z_gt ?_
  | with_reducible refine z_ge ?_
  | with_reducible refine z_not ?_
  | with_reducible refine z_and ?_
  | with_reducible refine z_or ?_
  | with_reducible refine z_andV ?_
  | with_reducible refine z_orV ?_
  | with_reducible refine z_notV ?_
  | with_reducible refine z_if ?_
  | with_reducible refine z_cb ?_
  | with_reducible refine z_int1 ?_
  | with_reducible refine z_intb ?_
  | with_reducible refine z_abs ?_
  | with_reducible refine z_gcd ?_
  | with_reducible refine z_isi_ii ?_
  | with_reducible refine z_isi_ib ?_
  | with_reducible refine z_next ?_
  | with_reducible refine z_drop ?_
  | with_reducible refine z_par ?_
  | with_reducible refine z_par2 ?_
  | with_reducible refine z_tupN ?_
  | with_reducible refine z_lstN ?_
  | ((with_reducible refine' z_nt ?zl1 ?_); (case zl1 => exact Nat.le_of_ble_eq_true rfl); intro p H' hp hs he)
  | ((with_reducible refine' z_gtup ?zl1 ?zl2 ?_); (case zl1 => walk_at "up"); (case zl2 => exact rfl))
  | with_reducible refine z_bk ?_
  | with_reducible refine z_ct ?_
  | with_reducible refine z_break ?_
  | with_reducible refine z_cont ?_
  | with_reducible refine z_retN ?_
  | with_reducible refine z_nn ?_
  | with_reducible refine z_mk ?_
  | with_reducible refine z_gn ?_
  | with_reducible refine z_gcons ?_
  | with_reducible refine z_gnil ?_
  | with_reducible refine z_mt ?_
  | with_reducible refine z_mko ?_
  | with_reducible refine z_for2 ?_
  | with_reducible refine z_ownI ?_
  | ((with_reducible refine' z_lenL ?zl1 ?_); (case zl1 => walk_at "up"))
  | ((with_reducible refine' z_ixT ?zl1 ?zl2 ?_); (case zl1 => walk_at "up"); (case zl2 => exact rfl))
  | ((with_reducible refine' z_mulL ?zl1 ?zl2 ?_); (case zl1 => omega); (case zl2 => omega))
  | ((with_reducible refine' z_mulR ?zl1 ?zl2 ?_); (case zl1 => omega); (case zl2 => omega))
  | ((with_reducible refine' z_divS ?zl1 ?zl2 ?_); (case zl1 => omega); (case zl2 => omega))
  | ((with_reducible refine' z_mulW ?zl1 ?zl2 ?zl3 ?zl4 ?_); (case zl1 => omega); (case zl2 => omega); (case zl3 => omega); (case zl4 => omega))
  | ((with_reducible refine' z_divW ?zl1 ?zl2 ?_); (case zl1 => omega); (case zl2 => omega)))
local macro_rules | `(tactic| walk_at "zz") => `(tactic| repeat (walk_at "z"))
local macro_rules | `(tactic| walk_at "z") => `(tactic| with_reducible refine z_lstN ?_)
local macro_rules | `(tactic| walk_at "z") => `(tactic| with_reducible refine z_p6 ?_)
local macro_rules | `(tactic| walk_at "z") => `(tactic| with_reducible refine z_p12 ?_)
local macro_rules | `(tactic| walk_at "z") => `(tactic| with_reducible refine z_p13 ?_)
local macro_rules | `(tactic| walk_at "z") => `(tactic| with_reducible refine z_calln ?_)
local macro_rules | `(tactic| walk_at "z") => `(tactic| with_reducible refine z_xfS ?_)
local macro_rules | `(tactic| walk_at "z") => `(tactic| with_reducible refine z_lcS ?_)
local macro_rules | `(tactic| walk_at "z") => `(tactic| with_reducible refine z_lcRS ?_)
local macro_rules | `(tactic| walk_at "z") => `(tactic| with_reducible refine z_lcZS ?_)
local macro_rules | `(tactic| walk_at "z") => `(tactic| with_reducible refine z_foS ?_)
local macro_rules | `(tactic| walk_at "z") => `(tactic| with_reducible refine z_for1 ?_)
local macro_rules | `(tactic| walk_at "z") => `(tactic| with_reducible refine z_tsl ?_)
local macro_rules | `(tactic| walk_at "z") => `(tactic| with_reducible refine z_np ?_)
local macro_rules | `(tactic| walk_at "z") => `(tactic| with_reducible refine z_pt ?_)
local macro_rules | `(tactic| walk_at "z") => `(tactic| with_reducible refine z_pti ?_)
local macro_rules | `(tactic| walk_at "z") => `(tactic| with_reducible refine z_catI ?_)
local macro_rules | `(tactic| walk_at "z") => `(tactic| with_reducible refine z_isNI ?_)
local macro_rules | `(tactic| walk_at "z") => `(tactic| with_reducible refine z_isNN ?_)
local macro_rules | `(tactic| walk_at "z") => `(tactic| with_reducible refine z_notNI ?_)
local macro_rules | `(tactic| walk_at "z") => `(tactic| with_reducible refine z_notNN ?_)
local macro_rules | `(tactic| walk_at "z") => `(tactic| with_reducible refine z_gsub ?_)
local macro_rules | `(tactic| walk_at "z") => `(tactic| with_reducible refine z_isNb ?_)
local macro_rules | `(tactic| walk_at "z") => `(tactic| with_reducible refine z_notNb ?_)
local macro_rules | `(tactic| walk_at "z") => `(tactic| ((with_reducible refine' z_nlR ?zl1 ?_); (case zl1 => exact Nat.le_of_ble_eq_true rfl); intro p H' hp hs he))
local macro_rules | `(tactic| walk_at "z") => `(tactic| ((with_reducible refine' z_repR ?zl1 ?zl2 ?_); (case zl1 => omega); (case zl2 => omega)))
local macro_rules | `(tactic| walk_at "z") => `(tactic| ((with_reducible refine' z_repL ?zl1 ?zl2 ?_); (case zl1 => omega); (case zl2 => omega)))
local macro_rules | `(tactic| walk_at "z") => `(tactic| ((with_reducible refine' z_lenLst ?zl1 ?_); (case zl1 => walk_at "up")))
local macro_rules | `(tactic| walk_at "z") => `(tactic| ((with_reducible refine' z_cat ?zl1 ?zl2 ?zl3 ?_); (case zl1 => walk_at "up"); (case zl2 => walk_at "up"); (case zl3 => (simp only [List.length_map, List.length_cons, List.length_nil, List.length_append, List.length_replicate]; omega)); intro p H' hp hs he))
local macro_rules | `(tactic| walk_at "z") => `(tactic| with_reducible refine z_sfl ?_)
local macro_rules | `(tactic| walk_at "z") => `(tactic| with_reducible refine z_lcES ?_)
local macro_rules | `(tactic| walk_at "z") => `(tactic| with_reducible refine z_lcMS ?_)
local macro_rules | `(tactic| walk_at "z") => `(tactic| with_reducible refine z_foES ?_)
local macro_rules | `(tactic| walk_at "z") => `(tactic| with_reducible refine z_fo3S ?_)
local macro_rules | `(tactic| walk_at "z") => `(tactic| with_reducible refine z_sta ?_)
local macro_rules | `(tactic| walk_at "z") => `(tactic| with_reducible refine z_sta1 ?_)
local macro_rules | `(tactic| walk_at "z") => `(tactic| with_reducible refine z_lcTS ?_)
local macro_rules | `(tactic| walk_at "z") => `(tactic| with_reducible refine z_foTS ?_)
local macro_rules | `(tactic| walk_at "z") => `(tactic| with_reducible refine z_revTS ?_)
local macro_rules | `(tactic| walk_at "z") => `(tactic| with_reducible refine z_max2 ?_)
local macro_rules | `(tactic| walk_at "z") => `(tactic| ((with_reducible refine' z_fldt ?zc1 ?zc2 ?zl1 ?zl2 ?_); (case zc1 => exact Lw.cl_Ratio (by assumption)); (case zc2 => exact Lw.na_Ratio_top (by assumption)); (case zl1 => exact rfl); (case zl2 => walk_at "up")))
local macro_rules | `(tactic| walk_at "z") => `(tactic| ((with_reducible refine' z_fldb ?zc1 ?zc2 ?zl1 ?zl2 ?_); (case zc1 => exact Lw.cl_Ratio (by assumption)); (case zc2 => exact Lw.na_Ratio_bottom (by assumption)); (case zl1 => exact rfl); (case zl2 => walk_at "up")))
local macro_rules | `(tactic| walk_at "z") => `(tactic| ((with_reducible refine' u_mtF ?zl1 ?_); (case zl1 => walk_at "up")))
local macro_rules | `(tactic| walk_at "z") => `(tactic| with_reducible refine z_oaI ?_)
local macro_rules | `(tactic| walk_at "z") => `(tactic| with_reducible refine z_osI ?_)
local macro_rules | `(tactic| walk_at "z") => `(tactic| with_reducible refine z_asg2S ?_)
local macro_rules | `(tactic| walk_at "z") => `(tactic| ((with_reducible refine' z_ixLst ?zl1 ?zl2 ?_); (case zl1 => walk_at "up"); (case zl2 => exact rfl)))
local macro_rules | `(tactic| walk_at "z") => `(tactic| ((with_reducible refine' u_draw ?zl1 ?zl2 ?zl3 ?zl4 ?zl5 ?_); (case zl1 => walk_at "up"); (case zl2 => omega); (case zl3 => omega); (case zl4 => omega); (case zl5 => omega); intro r r0 r1))
local macro_rules | `(tactic| walk_at "z") => `(tactic| ((with_reducible refine' u_cell ?zl1 ?zl2 ?_); (case zl1 => walk_at "up"); (case zl2 => omega); intro c))
local macro_rules | `(tactic| walk_at "z") => `(tactic| with_reducible refine z_eqB ?_)
local macro_rules | `(tactic| walk_at "z") => `(tactic| with_reducible refine z_isB ?_)
local macro_rules | `(tactic| walk_at "z") => `(tactic| with_reducible refine u_whole1 ?_)
theorem same63c {H H1 H2 : Hp} (h : Same H1 H2) (e : Same H H1) : Same H H2 := e.trans h
local macro_rules | `(tactic| walk_at "sm") => `(tactic| first
  | assumption
  | exact fun _ _ h => h
  | (refine' same63c (by assumption) ?zsm; case zsm => walk_at "sm"))
local macro_rules | `(tactic| walk_at "up") => `(tactic| first
  | assumption
  | (with_reducible refine' IsR.mono (by assumption) ?zup; case zup => walk_at "up")
  | (with_reducible refine' Fr.mono (by assumption) ?zup; case zup => walk_at "up")
  | (with_reducible refine' FS.mono (by assumption) ?zup; case zup => walk_at "up")
  | (with_reducible refine' Sq2.mono (by assumption) ?zup; case zup => walk_at "up")
  | (with_reducible refine' Same.at (by assumption) ?zup; case zup => walk_at "up")
  | (with_reducible refine' IsPool.mono (by assumption) ?zup; case zup => walk_at "up")
  | fail)
section
variable {P : Program} {w : World} {K : Frag} {mg : Str → Option Value} {base : Heap}
theorem ok_law_cell (L : Lw K mg) {fd : FuncData} (F : FunD K "_law_cell" "_law_cell" (defArgs s_law_cell) (defBody s_law_cell) (defScope s_law_cell) (df_law_cell.dvs K) (df_law_cell.kws K) (He.fAd K ("_law_cell", none)) fd) : FnOk P w K mg base (L2N.CX P w) 1 (He.fAd K ("_law_cell", none)) fd (["cells", "k"] : List Str) (sp2 fs_cell) := by
  refine FunD.ok F sc_law_cell len2 (fun cdv A outer s H vs Q E hr h => ?_)
  obtain ⟨a, b, rfl, h⟩ := h
  refine ⟨_, (pss_cons (ps_if (pt_cmpR o_lt (pv 1) (pe_callB (callK rLen1 (K := K) rfl o_len) (by rfl) L.f_len (by decide +kernel) (pa_cons (pv 0) pa_nil)) (nomark _)) (pss_one (ps_ret (pe_callTy o_int1 (by rfl) L.f_int (by decide +kernel) (pa_cons (pe_ix (ix_seqK (K := K) rfl) (pv 0) (pv 1) (fun _ _ => rfl)) pa_nil)))) pss_nil)
    (pss_one (ps_ret pe_int))), ?_⟩
  obtain ⟨p, k, rfl, rfl, ⟨ns, hp⟩, h0, q⟩ := h
  walk_at "zz"
  refine z_d2 (fun c => ?_) (fun c => ?_)
  · walk_at "zz"
    refine z_ixL (SqL.of hp) (cell_at h0 c) ?_
    walk_at "zz"
    exact q _
  · walk_at "zz"
    exact q _
theorem c_law_cell (L : Lw K mg) : Cal P w K mg base 1 "_law_cell" (sp2 fs_cell) [] := by
  obtain ⟨fd, F⟩ := L.d_law_cell
  exact ⟨⟨_, fd, ["cells", "k"], [], ok_law_cell L F, L.g_law_cell, F.kp, F.bindsN (fun _ _ _ _ _ _ us hl => match us, hl with | [_, _], _ => rfl), .nil⟩⟩
theorem ok_law_draw (L : Lw K mg) {fd : FuncData} (F : FunD K "_law_draw" "_law_draw" (defArgs s_law_draw) (defBody s_law_draw) (defScope s_law_draw) (df_law_draw.dvs K) (df_law_draw.kws K) (He.fAd K ("_law_draw", none)) fd) : FnOk P w K mg base (L2N.CX P w) 2 (He.fAd K ("_law_draw", none)) fd (["cells", "k", "step", "many"] : List Str) (sp4 fs_draw) := by
  refine FunD.ok F sc_law_draw len4 (fun cdv A outer s H vs Q E hr h => ?_)
  obtain ⟨a, b, c, d, rfl, h⟩ := h
  refine ⟨_, (pss_one (ps_ret (pe_op o_mod (pe_callTy o_int1 (by rfl) L.f_int (by decide +kernel) (pa_cons (pe_op o_cat (pe_op o_cat (pe_op o_div (pe_c (c_law_cell (K := K) L) hr (by decide) (L2N.takes_of rfl rfl rfl rfl) (pa_cons (pv 0) (pa_cons (pv 1) pa_nil))) (pv 2)) (pe_op o_rep pe_int (pv 1))) pe_int) pa_nil)) (pv 3)))), ?_⟩
  obtain ⟨p, k, s, m, rfl, rfl, rfl, rfl, hp, h0, h1, h2, h3, q⟩ := h
  walk_at "zz"
  refine z_mod h3 ?_
  exact q _ (Int.emod_nonneg _ (by omega)) (Int.emod_lt_of_pos _ h3)
theorem c_law_draw (L : Lw K mg) : Cal P w K mg base 2 "_law_draw" (sp4 fs_draw) [] := by
  obtain ⟨fd, F⟩ := L.d_law_draw
  exact ⟨⟨_, fd, ["cells", "k", "step", "many"], [], ok_law_draw L F, L.g_law_draw, F.kp, F.bindsN (fun _ _ _ _ _ _ us hl => match us, hl with | [_, _, _, _], _ => rfl), .nil⟩⟩
theorem ok_law_many (L : Lw K mg) {fd : FuncData} (F : FunD K "_law_many" "_law_many" (defArgs s_law_many) (defBody s_law_many) (defScope s_law_many) (df_law_many.dvs K) (df_law_many.kws K) (He.fAd K ("_law_many", none)) fd) : FnOk P w K mg base (L2N.CX P w) 3 (He.fAd K ("_law_many", none)) fd (["cells"] : List Str) (sp1 fs_many) := by
  refine FunD.ok F sc_law_many len1 (fun cdv A outer s H vs Q E hr h => ?_)
  obtain ⟨a, rfl, h⟩ := h
  refine ⟨_, (pss_cons (ps_if (pt_cmpR op_eq (pe_c (c_law_draw (K := K) L) hr (by decide) (L2N.takes_of rfl rfl rfl rfl) (pa_cons (pv 0) (pa_cons pe_int (pa_cons pe_int (pa_cons pe_int pa_nil))))) pe_int (nomark _)) (pss_cons (ps_if (pt_cmpR op_eq (pe_c (c_law_draw (K := K) L) hr (by decide) (L2N.takes_of rfl rfl rfl rfl) (pa_cons (pv 0) (pa_cons pe_int (pa_cons pe_int (pa_cons pe_int pa_nil))))) pe_int (nomark _)) (pss_one (ps_ret pe_int)) pss_nil)
    (pss_one (ps_ret (pe_op o_cat pe_int (pe_c (c_law_draw (K := K) L) hr (by decide) (L2N.takes_of rfl rfl rfl rfl) (pa_cons (pv 0) (pa_cons pe_int (pa_cons pe_int (pa_cons pe_int pa_nil))))))))) pss_nil)
    (pss_one (ps_ret (pe_op o_cat pe_int (pe_c (c_law_draw (K := K) L) hr (by decide) (L2N.takes_of rfl rfl rfl rfl) (pa_cons (pv 0) (pa_cons pe_int (pa_cons pe_int (pa_cons pe_int pa_nil))))))))), ?_⟩
  obtain ⟨p, rfl, hp, q⟩ := h
  walk_at "zz"
  refine z_d2 (fun c => ?_) (fun c => ?_)
  · walk_at "zz"
    refine z_d2 (fun c2 => ?_) (fun c2 => ?_)
    · walk_at "zz"
      exact q _ (by decide) (by decide)
    · walk_at "zz"
      exact q _ (by omega) (by omega)
  · walk_at "zz"
    exact q _ (by omega) (by omega)
theorem c_law_many (L : Lw K mg) : Cal P w K mg base 3 "_law_many" (sp1 fs_many) [] := by
  obtain ⟨fd, F⟩ := L.d_law_many
  exact ⟨⟨_, fd, ["cells"], [], ok_law_many L F, L.g_law_many, F.kp, F.bindsN (fun _ _ _ _ _ _ us hl => match us, hl with | [_], _ => rfl), .nil⟩⟩
theorem ok_law_whole (L : Lw K mg) {fd : FuncData} (F : FunD K "_law_whole" "_law_whole" (defArgs s_law_whole) (defBody s_law_whole) (defScope s_law_whole) (df_law_whole.dvs K) (df_law_whole.kws K) (He.fAd K ("_law_whole", none)) fd) : FnOk P w K mg base (L2N.CX P w) 1 (He.fAd K ("_law_whole", none)) fd (["x"] : List Str) (sp1 fs_whole1) := by
  refine FunD.ok F sc_law_whole len1 (fun cdv A outer s H vs Q E hr h => ?_)
  obtain ⟨a, rfl, h⟩ := h
  refine ⟨_, (pss_one (ps_ret (pe_and (pe_callB (callK rIsi (K := K) rfl call_isi) (by rfl) L.f_isinstance (by decide +kernel) (pa_cons (pv 0) (pa_cons (pe_ty "int" (by rfl) L.f_int (by decide +kernel)) pa_nil))) (pe_one (pe_not (pe_callB (callK rIsi (K := K) rfl call_isi) (by rfl) L.f_isinstance (by decide +kernel) (pa_cons (pv 0) (pa_cons (pe_ty "bool" (by rfl) L.f_bool (by decide +kernel)) pa_nil)))))))), ?_⟩
  obtain ⟨i, rfl, q⟩ := h
  walk_at "zz"
  exact q
theorem c_law_whole (L : Lw K mg) : Cal P w K mg base 1 "_law_whole" (sp1 fs_whole1) [] := by
  obtain ⟨fd, F⟩ := L.d_law_whole
  exact ⟨⟨_, fd, ["x"], [], ok_law_whole L F, L.g_law_whole, F.kp, F.bindsN (fun _ _ _ _ _ _ us hl => match us, hl with | [_], _ => rfl), .nil⟩⟩
theorem ch_law_whole (L : Lw K mg) : CalH P w K mg base 1 "_law_whole" (sp1 fs_whole1) := by
  obtain ⟨fd, F⟩ := L.d_law_whole
  refine ⟨_, fd, ["x"], okH F sc_law_whole len1 (fun cdv A outer s H vs Q E p hot1 hrH h => ?_), L.g_law_whole, F.kp, F.bindsN (fun _ _ _ _ _ _ us hl => match us, hl with | [_], _ => rfl)⟩
  obtain ⟨a, rfl, h⟩ := h
  refine ⟨_, (pss_one (ps_ret (pe_and (pe_callB (callK rIsi (K := K) rfl call_isi) (by rfl) L.f_isinstance (by decide +kernel) (pa_cons (pv 0) (pa_cons (pe_ty "int" (by rfl) L.f_int (by decide +kernel)) pa_nil))) (pe_one (pe_not (pe_callB (callK rIsi (K := K) rfl call_isi) (by rfl) L.f_isinstance (by decide +kernel) (pa_cons (pv 0) (pa_cons (pe_ty "bool" (by rfl) L.f_bool (by decide +kernel)) pa_nil)))))))), ?_⟩
  obtain ⟨i, rfl, q⟩ := h
  walk_at "zz"
  exact q
theorem ok_law_flag (L : Lw K mg) {fd : FuncData} (F : FunD K "_law_flag" "_law_flag" (defArgs s_law_flag) (defBody s_law_flag) (defScope s_law_flag) (df_law_flag.dvs K) (df_law_flag.kws K) (He.fAd K ("_law_flag", none)) fd) : FnOk P w K mg base (L2N.CX P w) 1 (He.fAd K ("_law_flag", none)) fd (["x", "due"] : List Str) (sp2 fs_flag) := by
  refine FunD.ok F sc_law_flag len2 (fun cdv A outer s H vs Q E hr h => ?_)
  obtain ⟨a, b, rfl, h⟩ := h
  refine ⟨_, (pss_one (ps_ret (pe_and (pe_callB (callK rIsi (K := K) rfl call_isi) (by rfl) L.f_isinstance (by decide +kernel) (pa_cons (pv 0) (pa_cons (pe_ty "bool" (by rfl) L.f_bool (by decide +kernel)) pa_nil))) (pe_one (pe_cmpR op_eq (pv 0) (pv 1) (nomark _)))))), ?_⟩
  obtain ⟨b, rfl, rfl, q⟩ := h
  walk_at "zz"
  exact q
theorem c_law_flag (L : Lw K mg) : Cal P w K mg base 1 "_law_flag" (sp2 fs_flag) [] := by
  obtain ⟨fd, F⟩ := L.d_law_flag
  exact ⟨⟨_, fd, ["x", "due"], [], ok_law_flag L F, L.g_law_flag, F.kp, F.bindsN (fun _ _ _ _ _ _ us hl => match us, hl with | [_, _], _ => rfl), .nil⟩⟩
theorem ok_law_fraction (L : Lw K mg) {fd : FuncData} (F : FunD K "_law_fraction" "_law_fraction" (defArgs s_law_fraction) (defBody s_law_fraction) (defScope s_law_fraction) (df_law_fraction.dvs K) (df_law_fraction.kws K) (He.fAd K ("_law_fraction", none)) fd) : FnOk P w K mg base (L2N.CX P w) 2 (He.fAd K ("_law_fraction", none)) fd (["x"] : List Str) (sp1 (fs_frac K)) := by
  refine FunD.ok F sc_law_fraction len1 (fun cdv A outer s H vs Q E hr h => ?_)
  obtain ⟨x, rfl, h⟩ := h
  refine ⟨_, (pss_cons (ps_if (pt_not (pt_val (pe_callB (callK rIsi (K := K) rfl call_isi) (by rfl) L.f_isinstance (by decide +kernel) (pa_cons (pv 0) (pa_cons (pe_cls L.g_Ratio) pa_nil))))) (pss_one (ps_ret pe_bl)) pss_nil)
    (pss_one (ps_ret (pe_and (pe_c (c_law_whole (K := K) L) hr (by decide) (L2N.takes_of rfl rfl rfl rfl) (pa_cons (pe_fld (pv 0) rfl) pa_nil)) (pe_and (pe_c (c_law_whole (K := K) L) hr (by decide) (L2N.takes_of rfl rfl rfl rfl) (pa_cons (pe_fld (pv 0) rfl) pa_nil)) (pe_one (pe_cmpR o_ge (pe_fld (pv 0) rfl) pe_int (nomark _)))))))), ?_⟩
  obtain ⟨a, T, w, rfl, ⟨t, b, hr, b0, _⟩, q⟩ := h
  walk_at "zz"
  refine z_isR L.in_Ratio L.kt_Ratio_Ratio hr ?_
  walk_at "zz"
  rw [decide_eq_true (show 1 ≤ b by omega)]
  exact q
theorem c_law_fraction (L : Lw K mg) : Cal P w K mg base 2 "_law_fraction" (sp1 (fs_frac K)) [] := by
  obtain ⟨fd, F⟩ := L.d_law_fraction
  exact ⟨⟨_, fd, ["x"], [], ok_law_fraction L F, L.g_law_fraction, F.kp, F.bindsN (fun _ _ _ _ _ _ us hl => match us, hl with | [_], _ => rfl), .nil⟩⟩
theorem ch_law_fraction (L : Lw K mg) : CalH P w K mg base 2 "_law_fraction" (sp1 (fs_frac K)) := by
  obtain ⟨fd, F⟩ := L.d_law_fraction
  refine ⟨_, fd, ["x"], okH F sc_law_fraction len1 (fun cdv A outer s H vs Q E p hot1 hrH h => ?_), L.g_law_fraction, F.kp, F.bindsN (fun _ _ _ _ _ _ us hl => match us, hl with | [_], _ => rfl)⟩
  obtain ⟨x, rfl, h⟩ := h
  refine ⟨_, (pss_cons (ps_if (pt_not (pt_val (pe_callB (callK rIsi (K := K) rfl call_isi) (by rfl) L.f_isinstance (by decide +kernel) (pa_cons (pv 0) (pa_cons (pe_cls L.g_Ratio) pa_nil))))) (pss_one (ps_ret pe_bl)) pss_nil)
    (pss_one (ps_ret (pe_and (pe_ch (ch_law_whole (K := K) L) hrH (by decide) (hot_in hot1) (pa_cons (pe_fld (pv 0) rfl) pa_nil)) (pe_and (pe_ch (ch_law_whole (K := K) L) hrH (by decide) (hot_in hot1) (pa_cons (pe_fld (pv 0) rfl) pa_nil)) (pe_one (pe_cmpR o_ge (pe_fld (pv 0) rfl) pe_int (nomark _)))))))), ?_⟩
  obtain ⟨a, T, w, rfl, ⟨t, b, hr, b0, _⟩, q⟩ := h
  walk_at "zz"
  refine z_isR L.in_Ratio L.kt_Ratio_Ratio hr ?_
  walk_at "zz"
  rw [decide_eq_true (show 1 ≤ b by omega)]
  exact q
theorem ok_law_is (L : Lw K mg) {fd : FuncData} (F : FunD K "_law_is" "_law_is" (defArgs s_law_is) (defBody s_law_is) (defScope s_law_is) (df_law_is.dvs K) (df_law_is.kws K) (He.fAd K ("_law_is", none)) fd) : FnOk P w K mg base (L2N.CX P w) 3 (He.fAd K ("_law_is", none)) fd (["x", "top", "bottom"] : List Str) (sp3 (fs_is K)) := by
  refine FunD.ok F sc_law_is len3 (fun cdv A outer s H vs Q E hr h => ?_)
  obtain ⟨x, y, z, rfl, h⟩ := h
  refine ⟨_, (pss_one (ps_ret (pe_and (pe_c (c_law_fraction (K := K) L) hr (by decide) (L2N.takes_of rfl rfl rfl rfl) (pa_cons (pv 0) pa_nil)) (pe_one (pe_cmpR op_eq (pe_op o_rep (pe_fld (pv 0) rfl) (pv 2)) (pe_op o_rep (pv 1) (pe_fld (pv 0) rfl)) (nomark _)))))), ?_⟩
  obtain ⟨a, T, w, t', b', rfl, rfl, rfl, hF, w0, bT, bw, bt', bb', e', q⟩ := h
  obtain ⟨t, b, hr, b0, g, e⟩ := id hF
  obtain ⟨bt, bb⟩ := fr_bits b0 g w0 e bT bw
  walk_at "zz"
  refine ⟨_, rfl, a, T, w, rfl, hF, ?_⟩
  walk_at "zz"
  refine z_repU bt bb' (by decide) ?_
  walk_at "zz"
  refine z_repU bt' bb (by decide) ?_
  walk_at "zz"
  have : t * b' = t' * b := mul_cancel w0 (by
    have : t * b' * w = (t * w) * b' := by grind
    rw [this, e]
    have : T * b * b' = (T * b') * b := by grind
    rw [this, e']
    grind)
  rw [decide_eq_true this]
  exact q
theorem c_law_is (L : Lw K mg) : Cal P w K mg base 3 "_law_is" (sp3 (fs_is K)) [] := by
  obtain ⟨fd, F⟩ := L.d_law_is
  exact ⟨⟨_, fd, ["x", "top", "bottom"], [], ok_law_is L F, L.g_law_is, F.kp, F.bindsN (fun _ _ _ _ _ _ us hl => match us, hl with | [_, _, _], _ => rfl), .nil⟩⟩
theorem ch_law_is (L : Lw K mg) : CalH P w K mg base 3 "_law_is" (sp3 (fs_is K)) := by
  obtain ⟨fd, F⟩ := L.d_law_is
  refine ⟨_, fd, ["x", "top", "bottom"], okH F sc_law_is len3 (fun cdv A outer s H vs Q E p hot1 hrH h => ?_), L.g_law_is, F.kp, F.bindsN (fun _ _ _ _ _ _ us hl => match us, hl with | [_, _, _], _ => rfl)⟩
  obtain ⟨x, y, z, rfl, h⟩ := h
  refine ⟨_, (pss_one (ps_ret (pe_and (pe_ch (ch_law_fraction (K := K) L) hrH (by decide) (hot_in hot1) (pa_cons (pv 0) pa_nil)) (pe_one (pe_cmpR op_eq (pe_op o_rep (pe_fld (pv 0) rfl) (pv 2)) (pe_op o_rep (pv 1) (pe_fld (pv 0) rfl)) (nomark _)))))), ?_⟩
  obtain ⟨a, T, w, t', b', rfl, rfl, rfl, hF, w0, bT, bw, bt', bb', e', q⟩ := h
  obtain ⟨t, b, hr, b0, g, e⟩ := id hF
  obtain ⟨bt, bb⟩ := fr_bits b0 g w0 e bT bw
  walk_at "zz"
  refine ⟨_, rfl, a, T, w, rfl, hF, ?_⟩
  walk_at "zz"
  refine z_repU bt bb' (by decide) ?_
  walk_at "zz"
  refine z_repU bt' bb (by decide) ?_
  walk_at "zz"
  have : t * b' = t' * b := mul_cancel w0 (by
    have : t * b' * w = (t * w) * b' := by grind
    rw [this, e]
    have : T * b * b' = (T * b') * b := by grind
    rw [this, e']
    grind)
  rw [decide_eq_true this]
  exact q
theorem ok_law_list (L : Lw K mg) {fd : FuncData} (F : FunD K "_law_list" "_law_list" (defArgs s_law_list) (defBody s_law_list) (defScope s_law_list) (df_law_list.dvs K) (df_law_list.kws K) (He.fAd K ("_law_list", none)) fd) : FnOk P w K mg base (L2N.CX P w) 4 (He.fAd K ("_law_list", none)) fd (["x", "tops", "low"] : List Str) (sp3 (fs_list K)) := by
  refine FunD.ok F sc_law_list len3 (fun cdv A outer s H vs Q E hr h => ?_)
  obtain ⟨x, y, z, rfl, h⟩ := h
  refine ⟨_, (pss_cons (ps_if (PW.pt (pw_or (pt_not (pt_val (pe_callB (callK rIsi (K := K) rfl call_isi) (by rfl) L.f_isinstance (by decide +kernel) (pa_cons (pv 0) (pa_cons (pe_ty "list" (by rfl) L.f_list (by decide +kernel)) pa_nil))))) (pw_or1 (pt_cmpR op_ne (pe_callB (callK rLen1 (K := K) rfl o_len) (by rfl) L.f_len (by decide +kernel) (pa_cons (pv 0) pa_nil)) (pe_callB (callK rLen1 (K := K) rfl o_len) (by rfl) L.f_len (by decide +kernel) (pa_cons (pv 1) pa_nil)) (nomark _))))) (pss_one (ps_ret pe_bl)) pss_nil)
    (pss_one (ps_ret (pe_callB (callK rAll (K := K) rfl (cr_all rfl)) (by rfl) L.f_all (by decide +kernel) (pa_cons (pe_lc (own := [("k", 3)]) (g := (gName 3)) (tt := tYes) rfl sc_law_list.nd (pi_range1 (by rfl) L.f_range (pa_cons (pe_callB (callK rLen1 (K := K) rfl o_len) (by rfl) L.f_len (by decide +kernel) (pa_cons (pv 1) pa_nil)) pa_nil)) (blkOk_by (N := ["x", "tops", "low", "k"]) (sc := defScope s_law_list) (by decide +kernel)) (fun _ _ _ _ _ => pg_name (i := 3) sc_law_list.nd rfl (Or.inl rfl)) (fun _ _ _ _ _ => pts_nil) (fun _ _ _ _ _ => (pe_c (c_law_is (K := K) L) hr (by decide) takesF (pa_cons (pe_ix (ix_seqK (K := K) rfl) (pv 0) (pv 3) (fun _ _ => rfl)) (pa_cons (pe_ix (ix_seqK (K := K) rfl) (pv 1) (pv 3) (fun _ _ => rfl)) (pa_cons (pv 2) pa_nil)))))) pa_nil))))), ?_⟩
  rw [show L2.start (["x", "tops", "low", "k"] : List Str) [x, y, z] = [some x, some y, some z, none] from rfl]
  obtain ⟨g, p, xs, ts, T, w, low, rfl, rfl, rfl, hF, hg, hp, hl, hn, w0, bT, bw, bt, bl, e, q⟩ := h
  try dsimp only [List.set]
  walk_at "zz"
  refine z_isLst hg ?_
  try dsimp only [List.set]
  walk_at "zz"
  refine z_dT (by rw [List.length_map, hl]) ?_
  try dsimp only [List.set]
  walk_at "zz"
  refine z_lcR (fun _ => V.bl true) (by omega) (by rw [List.length_map]; omega) (fun k H2 N2 hk s2 cc => ⟨rfl, ?_⟩) (fun D HD hD sD hlD => ?_)
  · rw [List.length_map] at hk
    obtain ⟨x, hx, ex⟩ := at_ref (xs := xs) (i := (k : Int)) (by omega) (by omega)
    obtain ⟨a, rfl, fa⟩ := hF.2 _ _ hx
    rw [Int.toNat_natCast] at fa
    try dsimp only [List.set]
    walk_at "zz"
    refine z_ixLst (s2 _ _ hg) ex ?_
    try dsimp only [List.set]
    walk_at "zz"
    refine z_ixLst (s2 _ _ hp) (at_cf (by omega) (by omega)) ?_
    rw [Int.toNat_natCast]
    try dsimp only [List.set]
    walk_at "zz"
    exact u_is (fa.mono s2) w0 ((bT k).up (by decide)) (bw.up (by decide)) ((bt k).up (by decide)) (bl.up (by decide)) (e k (by omega)) (cc _ (fun _ _ h => h))
  try dsimp only [List.set]
  walk_at "zz"
  have eb : ∀ n : Nat, (List.range n).map (fun _ => V.bl true) = ((List.range n).map fun _ => true).map V.bl := fun n => by rw [List.map_map] <;> rfl
  rw [eb] at hlD
  refine z_allB hlD ?_
  have ea : ∀ n : Nat, ((List.range n).map fun _ => true).all id = true := fun n => by simp
  rw [ea]
  exact q _ sD
theorem c_law_list (L : Lw K mg) : Cal P w K mg base 4 "_law_list" (sp3 (fs_list K)) [] := by
  obtain ⟨fd, F⟩ := L.d_law_list
  exact ⟨⟨_, fd, ["x", "tops", "low"], [], ok_law_list L F, L.g_law_list, F.kp, F.bindsN (fun _ _ _ _ _ _ us hl => match us, hl with | [_, _, _], _ => rfl), .nil⟩⟩
theorem ok_law_shares (L : Lw K mg) {fd : FuncData} (F : FunD K "_law_shares" "_law_shares" (defArgs s_law_shares) (defBody s_law_shares) (defScope s_law_shares) (df_law_shares.dvs K) (df_law_shares.kws K) (He.fAd K ("_law_shares", none)) fd) : FnOk P w K mg base (L2N.CX P w) 3 (He.fAd K ("_law_shares", none)) fd (["tops", "low"] : List Str) (sp2 (fs_shares K)) := by
  refine FunD.ok F sc_law_shares len2 (fun cdv A outer s H vs Q E hr h => ?_)
  obtain ⟨x, y, rfl, h⟩ := h
  refine ⟨_, (pss_one (ps_ret (pe_lc (own := [("top", 2)]) (g := (gName 2)) (tt := tYes) rfl sc_law_shares.nd (pi_listK (K := K) rfl (pv 0)) (blkOk_by (N := ["tops", "low", "top"]) (sc := defScope s_law_shares) (by decide +kernel)) (fun _ _ _ _ _ => pg_name (i := 2) sc_law_shares.nd rfl (Or.inl rfl)) (fun _ _ _ _ _ => pts_nil) (fun _ _ _ _ _ => (pe_mk (c_RatioD_initD (K := K) L) hr (by decide) takesF (pa_cons (pv 2) (pa_cons (pv 1) pa_nil))))))), ?_⟩
  obtain ⟨p, ts, low, rfl, rfl, hp, hn, l0, bl, k⟩ := h
  walk_at "zz"
  refine z_lcVP (itF K (cf ts) low) itF_mono hp (by rw [List.length_map]; omega) (fun i x H2 N2 hx s2 cc => ⟨rfl, ?_⟩) (fun D HD hD sD hlD => ?_)
  · obtain ⟨hi, rfl⟩ := map_at hx
    walk_at "zz"
    exact u_mkF l0 (bl.up (by decide)) rfl (fun q H4 s4 hq => cc _ _ s4 ⟨q, rfl, hq⟩)
  obtain ⟨xs, h1, h2, h3⟩ := FS.ls hlD
  rw [List.length_map] at h3
  exact k D xs HD hD sD h1 h2 h3
theorem c_law_shares (L : Lw K mg) : Cal P w K mg base 3 "_law_shares" (sp2 (fs_shares K)) [] := by
  obtain ⟨fd, F⟩ := L.d_law_shares
  exact ⟨⟨_, fd, ["tops", "low"], [], ok_law_shares L F, L.g_law_shares, F.kp, F.bindsN (fun _ _ _ _ _ _ us hl => match us, hl with | [_, _], _ => rfl), .nil⟩⟩
theorem ok_law_six (L : Lw K mg) {fd : FuncData} (F : FunD K "_law_six" "_law_six" (defArgs s_law_six) (defBody s_law_six) (defScope s_law_six) (df_law_six.dvs K) (df_law_six.kws K) (He.fAd K ("_law_six", none)) fd) : FnOk P w K mg base (L2N.CX P w) 1 (He.fAd K ("_law_six", none)) fd (["numbers", "tops"] : List Str) (sp2 fs_lsix) := by
  refine FunD.ok F sc_law_six len2 (fun cdv A outer s H vs Q E hr h => ?_)
  obtain ⟨x, y, rfl, h⟩ := h
  refine ⟨_, (pss_cons (ps_set (i := 2) sc_law_six.nd rfl (by first | exact Or.inl rfl | exact Or.inr rfl) (pe_callB (callK rSum (K := K) rfl (cr_sum rfl)) (by rfl) L.f_sum (by decide +kernel) (pa_cons (pv 1) pa_nil)))
    (pss_cons (ps_set (i := 3) sc_law_six.nd rfl (by first | exact Or.inl rfl | exact Or.inr rfl) (pe_callB (callK rSum (K := K) rfl (cr_sum rfl)) (by rfl) L.f_sum (by decide +kernel) (pa_cons (pe_lc (own := [("x", 4)]) (g := (gName 4)) (tt := tYes) rfl sc_law_six.nd (pi_listK (K := K) rfl (pv 1)) (blkOk_by (N := ["numbers", "tops", "one", "two", "x", "three", "rest"]) (sc := defScope s_law_six) (by decide +kernel)) (fun _ _ _ _ _ => pg_name (i := 4) sc_law_six.nd rfl (Or.inl rfl)) (fun _ _ _ _ _ => pts_nil) (fun _ _ _ _ _ => (pe_op o_rep (pv 4) (pv 4)))) pa_nil)))
    (pss_cons (ps_set (i := 5) sc_law_six.nd rfl (by first | exact Or.inl rfl | exact Or.inr rfl) (pe_callB (callK rSum (K := K) rfl (cr_sum rfl)) (by rfl) L.f_sum (by decide +kernel) (pa_cons (pe_lc (own := [("x", 4)]) (g := (gName 4)) (tt := tYes) rfl sc_law_six.nd (pi_listK (K := K) rfl (pv 1)) (blkOk_by (N := ["numbers", "tops", "one", "two", "x", "three", "rest"]) (sc := defScope s_law_six) (by decide +kernel)) (fun _ _ _ _ _ => pg_name (i := 4) sc_law_six.nd rfl (Or.inl rfl)) (fun _ _ _ _ _ => pts_nil) (fun _ _ _ _ _ => (pe_op o_rep (pe_op o_rep (pv 4) (pv 4)) (pv 4)))) pa_nil)))
    (pss_cons (ps_set (i := 6) sc_law_six.nd rfl (by first | exact Or.inl rfl | exact Or.inr rfl) (pe_op o_cat (pe_op o_rep (pe_ix (ix_seqK (K := K) rfl) (pv 0) pe_int (fun _ _ => rfl)) (pv 3)) (pe_op o_rep (pe_op o_rep (pe_ix (ix_seqK (K := K) rfl) (pv 0) pe_int (fun _ _ => rfl)) (pv 2)) (pv 2))))
    (pss_one (ps_ret (pe_op o_cat (pe_op o_rep (pe_ix (ix_seqK (K := K) rfl) (pv 0) pe_int (fun _ _ => rfl)) (pv 5)) (pe_op o_rep (pv 6) (pv 2))))))))), ?_⟩
  rw [show L2.start (["numbers", "tops", "one", "two", "x", "three", "rest"] : List Str) [x, y] = [some x, some y, none, none, none, none, none] from rfl]
  obtain ⟨p, q, a, b, c, ts, rfl, rfl, hp, hq, hn, ba, bb, bc, bt, k⟩ := h
  obtain ⟨b1, b2, b3⟩ := s_bits bt hn
  try dsimp only [List.set]
  walk_at "zz"
  refine ⟨_, _, rfl, SqL.of hq, ?_⟩
  rw [sum_s1]
  try dsimp only [List.set]
  walk_at "zz"
  refine z_lcI (fun x => V.int (x * x)) hq (by omega) (fun x H2 N2 hx s2 cc => ⟨rfl, ?_⟩) (fun D HD hD sD hlD => ?_)
  · obtain ⟨i, hi, rfl⟩ := mem_cf hx
    try dsimp only [List.set]
    walk_at "zz"
    refine z_repU (bt i) (bt i) (by decide) ?_
    exact cc _ (fun _ _ h => h)
  have hm : ts.map (fun x => V.int (x * x)) = (ts.map fun x => x * x).map V.int := by rw [List.map_map] <;> rfl
  rw [hm] at hlD
  try dsimp only [List.set]
  walk_at "zz"
  refine ⟨_, _, rfl, SqL.of hlD, ?_⟩
  rw [sum_s2]
  try dsimp only [List.set]
  walk_at "zz"
  refine z_lcI (fun x => V.int (x * x * x)) (sD _ _ hq) (by omega) (fun x H2 N2 hx s2 cc => ⟨rfl, ?_⟩) (fun D2 HD2 hD2 sD2 hlD2 => ?_)
  · obtain ⟨i, hi, rfl⟩ := mem_cf hx
    try dsimp only [List.set]
    walk_at "zz"
    refine z_repU (bt i) (bt i) (by decide) ?_
    try dsimp only [List.set]
    walk_at "zz"
    refine z_repU ((bt i).mul (bt i)) (bt i) (by decide) ?_
    exact cc _ (fun _ _ h => h)
  have hm2 : ts.map (fun x => V.int (x * x * x)) = (ts.map fun x => x * x * x).map V.int := by rw [List.map_map] <;> rfl
  rw [hm2] at hlD2
  try dsimp only [List.set]
  walk_at "zz"
  refine ⟨_, _, rfl, SqL.of hlD2, ?_⟩
  rw [sum_s3]
  have s0 := sD.trans sD2
  have hp' := s0 _ _ hp
  try dsimp only [List.set]
  walk_at "zz"
  refine z_repU bb b2 (by decide) ?_
  try dsimp only [List.set]
  walk_at "zz"
  refine z_repU bc b1 (by decide) ?_
  try dsimp only [List.set]
  walk_at "zz"
  refine z_repU (bc.mul b1) b1 (by decide) ?_
  try dsimp only [List.set]
  walk_at "zz"
  refine z_repU ba b3 (by decide) ?_
  try dsimp only [List.set]
  walk_at "zz"
  refine z_repU (a := 271) (Bits.add (a := 270) (Bits.up (bb.mul b2) (by decide)) (Bits.up ((bc.mul b1).mul b1) (by decide))) b1 (by decide) ?_
  try dsimp only [List.set]
  walk_at "zz"
  exact k _ s0
theorem c_law_six (L : Lw K mg) : Cal P w K mg base 1 "_law_six" (sp2 fs_lsix) [] := by
  obtain ⟨fd, F⟩ := L.d_law_six
  exact ⟨⟨_, fd, ["numbers", "tops"], [], ok_law_six L F, L.g_law_six, F.kp, F.bindsN (fun _ _ _ _ _ _ us hl => match us, hl with | [_, _], _ => rfl), .nil⟩⟩
theorem ok_law_halves (L : Lw K mg) {fd : FuncData} (F : FunD K "_law_halves" "_law_halves" (defArgs s_law_halves) (defBody s_law_halves) (defScope s_law_halves) (df_law_halves.dvs K) (df_law_halves.kws K) (He.fAd K ("_law_halves", none)) fd) : FnOk P w K mg base (L2N.CX P w) 1 (He.fAd K ("_law_halves", none)) fd (["tops", "i", "j"] : List Str) (sp3 (fs_row halv)) := by
  refine FunD.ok F sc_law_halves len3 (fun cdv A outer s H vs Q E hr h => ?_)
  obtain ⟨x, y, z, rfl, h⟩ := h
  refine ⟨_, (pss_cons (ps_setLc (i := 3) (own := [("x", 4)]) (g := (gName 4)) (tt := tYes) rfl sc_law_halves.nd rfl rfl (sw_true rfl rfl rfl (by decide +kernel)) (pi_listK (K := K) rfl (pv 0)) (blkOk_by (N := ["tops", "i", "j", "row", "x"]) (sc := defScope s_law_halves) (by decide +kernel)) (fun _ _ _ _ _ => pg_name (i := 4) sc_law_halves.nd rfl (Or.inl rfl)) (fun _ _ _ _ _ => pts_nil) (fun _ _ _ _ _ => (pe_op o_rep pe_int (pv 4))))
    (pss_cons (ps_asg (pe_op o_cat (pe_ix (ix_seqK (K := K) rfl) (pv 0) (pv 1) (fun _ _ => rfl)) (pe_ix (ix_seqK (K := K) rfl) (pv 0) (pv 2) (fun _ _ => rfl))) (pg_sub (pv 3) (pv 1) set_list))
    (pss_cons (ps_asg (pe_op o_cat (pe_ix (ix_seqK (K := K) rfl) (pv 0) (pv 1) (fun _ _ => rfl)) (pe_ix (ix_seqK (K := K) rfl) (pv 0) (pv 2) (fun _ _ => rfl))) (pg_sub (pv 3) (pv 2) set_list))
    (pss_one (ps_ret (pv 3)))))), ?_⟩
  rw [show L2.start (["tops", "i", "j", "row", "x"] : List Str) [x, y, z] = [some x, some y, some z, none, none] from rfl]
  obtain ⟨p, ts, i, j, rfl, rfl, rfl, hp, hn, i0, i1, j0, j1, k⟩ := h
  try dsimp only [List.set]
  walk_at "zz"
  refine z_lcI (fun x => V.int (2 * x)) hp (by omega) (fun x H2 N2 hx s2 cc => ⟨rfl, ?_⟩) (fun D HD hD sD hlD => ?_)
  · try dsimp only [List.set]
    walk_at "zz"
    exact cc _ (fun _ _ h => h)
  have hm : ts.map (fun x => V.int (2 * x)) = (ts.map fun x => 2 * x).map V.int := by rw [List.map_map] <;> rfl
  rw [hm] at hlD
  have hp' := sD _ _ hp
  have ne : p ≠ D := ne_of_none hp hD
  have ln : (ts.map fun x => 2 * x).length = ts.length := List.length_map _
  try dsimp only [List.set]
  walk_at "zz"
  refine z_ixLst hp' (at_cf i0 i1) ?_
  try dsimp only [List.set]
  walk_at "zz"
  refine z_ixLst hp' (at_cf j0 j1) ?_
  try dsimp only [List.set]
  walk_at "zz"
  refine z_setL (j := i.toNat) hlD (by omega) (by rw [List.length_map, ln]; omega) ?_
  rw [set_int]
  have hp2 : (upd HD D (.lst (((ts.map fun x => 2 * x).set i.toNat (cf ts i.toNat + cf ts j.toNat)).map V.int))) p = some (.lst (ts.map V.int)) := by rw [upd_ne ne]; exact hp'
  try dsimp only [List.set]
  walk_at "zz"
  refine z_ixLst hp2 (at_cf i0 i1) ?_
  try dsimp only [List.set]
  walk_at "zz"
  refine z_ixLst hp2 (at_cf j0 j1) ?_
  try dsimp only [List.set]
  walk_at "zz"
  refine z_setL (j := j.toNat) upd_same (by omega) (by rw [List.length_map, List.length_set, ln]; omega) ?_
  rw [set_int]
  try dsimp only [List.set]
  walk_at "zz"
  refine k D _ _ hD (Same.put (Same.put sD hD) hD) upd_same (by rw [List.length_set, List.length_set, ln]) (fun k => ?_)
  rw [cf_set2 (by omega) (by omega), cf_map2]
  rfl
theorem c_law_halves (L : Lw K mg) : Cal P w K mg base 1 "_law_halves" (sp3 (fs_row halv)) [] := by
  obtain ⟨fd, F⟩ := L.d_law_halves
  exact ⟨⟨_, fd, ["tops", "i", "j"], [], ok_law_halves L F, L.g_law_halves, F.kp, F.bindsN (fun _ _ _ _ _ _ us hl => match us, hl with | [_, _, _], _ => rfl), .nil⟩⟩
theorem ok_law_moved (L : Lw K mg) {fd : FuncData} (F : FunD K "_law_moved" "_law_moved" (defArgs s_law_moved) (defBody s_law_moved) (defScope s_law_moved) (df_law_moved.dvs K) (df_law_moved.kws K) (He.fAd K ("_law_moved", none)) fd) : FnOk P w K mg base (L2N.CX P w) 1 (He.fAd K ("_law_moved", none)) fd (["tops", "i", "j"] : List Str) (sp3 (fs_row movd)) := by
  refine FunD.ok F sc_law_moved len3 (fun cdv A outer s H vs Q E hr h => ?_)
  obtain ⟨x, y, z, rfl, h⟩ := h
  refine ⟨_, (pss_cons (ps_setLc (i := 3) (own := [("x", 4)]) (g := (gName 4)) (tt := tYes) rfl sc_law_moved.nd rfl rfl (sw_true rfl rfl rfl (by decide +kernel)) (pi_listK (K := K) rfl (pv 0)) (blkOk_by (N := ["tops", "i", "j", "row", "x"]) (sc := defScope s_law_moved) (by decide +kernel)) (fun _ _ _ _ _ => pg_name (i := 4) sc_law_moved.nd rfl (Or.inl rfl)) (fun _ _ _ _ _ => pts_nil) (fun _ _ _ _ _ => (pe_op o_rep pe_int (pv 4))))
    (pss_cons (ps_asg pe_int (pg_sub (pv 3) (pv 1) set_list))
    (pss_cons (ps_asg (pe_op o_rep pe_int (pe_op o_cat (pe_ix (ix_seqK (K := K) rfl) (pv 0) (pv 1) (fun _ _ => rfl)) (pe_ix (ix_seqK (K := K) rfl) (pv 0) (pv 2) (fun _ _ => rfl)))) (pg_sub (pv 3) (pv 2) set_list))
    (pss_one (ps_ret (pv 3)))))), ?_⟩
  rw [show L2.start (["tops", "i", "j", "row", "x"] : List Str) [x, y, z] = [some x, some y, some z, none, none] from rfl]
  obtain ⟨p, ts, i, j, rfl, rfl, rfl, hp, hn, i0, i1, j0, j1, k⟩ := h
  try dsimp only [List.set]
  walk_at "zz"
  refine z_lcI (fun x => V.int (2 * x)) hp (by omega) (fun x H2 N2 hx s2 cc => ⟨rfl, ?_⟩) (fun D HD hD sD hlD => ?_)
  · try dsimp only [List.set]
    walk_at "zz"
    exact cc _ (fun _ _ h => h)
  have hm : ts.map (fun x => V.int (2 * x)) = (ts.map fun x => 2 * x).map V.int := by rw [List.map_map] <;> rfl
  rw [hm] at hlD
  have hp' := sD _ _ hp
  have ne : p ≠ D := ne_of_none hp hD
  have ln : (ts.map fun x => 2 * x).length = ts.length := List.length_map _
  try dsimp only [List.set]
  walk_at "zz"
  refine z_setL (j := i.toNat) hlD (by omega) (by rw [List.length_map, ln]; omega) ?_
  rw [set_int]
  have hp2 : (upd HD D (.lst (((ts.map fun x => 2 * x).set i.toNat 0).map V.int))) p = some (.lst (ts.map V.int)) := by rw [upd_ne ne]; exact hp'
  try dsimp only [List.set]
  walk_at "zz"
  refine z_ixLst hp2 (at_cf i0 i1) ?_
  try dsimp only [List.set]
  walk_at "zz"
  refine z_ixLst hp2 (at_cf j0 j1) ?_
  try dsimp only [List.set]
  walk_at "zz"
  refine z_setL (j := j.toNat) upd_same (by omega) (by rw [List.length_map, List.length_set, ln]; omega) ?_
  rw [set_int]
  try dsimp only [List.set]
  walk_at "zz"
  refine k D _ _ hD (Same.put (Same.put sD hD) hD) upd_same (by rw [List.length_set, List.length_set, ln]) (fun k => ?_)
  rw [cf_set2 (by omega) (by omega), cf_map2]
  rfl
theorem c_law_moved (L : Lw K mg) : Cal P w K mg base 1 "_law_moved" (sp3 (fs_row movd)) [] := by
  obtain ⟨fd, F⟩ := L.d_law_moved
  exact ⟨⟨_, fd, ["tops", "i", "j"], [], ok_law_moved L F, L.g_law_moved, F.kp, F.bindsN (fun _ _ _ _ _ _ us hl => match us, hl with | [_, _, _], _ => rfl), .nil⟩⟩
theorem ok_law_both (L : Lw K mg) {fd : FuncData} (F : FunD K "_law_both" "_law_both" (defArgs s_law_both) (defBody s_law_both) (defScope s_law_both) (df_law_both.dvs K) (df_law_both.kws K) (He.fAd K ("_law_both", none)) fd) : FnOk P w K mg base (L2N.CX P w) 5 (He.fAd K ("_law_both", none)) fd (["told", "tops", "low", "i", "j"] : List Str) (sp5 (fs_both K)) := by
  refine FunD.ok F sc_law_both len5 (fun cdv A outer s H vs Q E hr h => ?_)
  obtain ⟨a, b, c, d, e, rfl, h⟩ := h
  refine ⟨_, (pss_cons (ps_if (PW.pt (pw_or (pt_not (pt_val (pe_callB (callK rIsi (K := K) rfl call_isi) (by rfl) L.f_isinstance (by decide +kernel) (pa_cons (pv 0) (pa_cons (pe_ty "tuple" (by rfl) L.f_tuple (by decide +kernel)) pa_nil))))) (pw_or1 (pt_cmpR op_ne (pe_callB (callK rLen1 (K := K) rfl o_len) (by rfl) L.f_len (by decide +kernel) (pa_cons (pv 0) pa_nil)) pe_int (nomark _))))) (pss_one (ps_ret pe_bl)) pss_nil)
    (pss_cons (ps_if (pt_not (pt_val (pe_c (c_law_list (K := K) L) hr (by decide) (L2N.takes_of rfl rfl rfl rfl) (pa_cons (pe_ix (ix_seqK (K := K) rfl) (pv 0) pe_int (fun _ _ => rfl)) (pa_cons (pe_c (c_law_halves (K := K) L) hr (by decide) (L2N.takes_of rfl rfl rfl rfl) (pa_cons (pv 1) (pa_cons (pv 3) (pa_cons (pv 4) pa_nil)))) (pa_cons (pe_op o_rep pe_int (pv 2)) pa_nil)))))) (pss_one (ps_ret pe_bl)) pss_nil)
    (pss_one (ps_ret (pe_c (c_law_list (K := K) L) hr (by decide) (L2N.takes_of rfl rfl rfl rfl) (pa_cons (pe_ix (ix_seqK (K := K) rfl) (pv 0) pe_int (fun _ _ => rfl)) (pa_cons (pe_c (c_law_moved (K := K) L) hr (by decide) (L2N.takes_of rfl rfl rfl rfl) (pa_cons (pv 1) (pa_cons (pv 3) (pa_cons (pv 4) pa_nil)))) (pa_cons (pe_op o_rep pe_int (pv 2)) pa_nil)))))))), ?_⟩
  rw [show L2.start (["told", "tops", "low", "i", "j"] : List Str) [a, b, c, d, e] = [some a, some b, some c, some d, some e] from rfl]
  obtain ⟨t, h, m, p, ys, zs, ts, low, i, j, rfl, rfl, rfl, rfl, rfl, ht, hp, hn, i0, i1, j0, j1, l0, bl, bt, fh, eh, ly, fm, em, lz, k⟩ := h
  have b2 : Bits 42 (2 * low) := Bits.up (Bits.mul (a := 2) (Bits.small (by decide) (by decide)) bl) (by decide)
  try dsimp only [List.set]
  walk_at "zz"
  refine z_isTup ht ?_
  try dsimp only [List.set]
  walk_at "zz"
  refine z_lenT ht ?_
  try dsimp only [List.set]
  walk_at "zz"
  refine z_dT rfl ?_
  try dsimp only [List.set]
  walk_at "zz"
  try dsimp only [List.set]
  walk_at "zz"
  refine ⟨_, _, _, rfl, p, ts, i, j, rfl, rfl, rfl, hp, by omega, i0, i1, j0, j1, fun q1 H1 row1 hq1 s1 e1 l1 c1 => ?_⟩
  try dsimp only [List.set]
  walk_at "zz"
  refine ⟨_, _, _, rfl, h, q1, ys, row1, _, _, _, rfl, rfl, rfl, fh.mono s1, s1 _ _ eh, e1, by omega, by omega, by omega, fun k => Bits.up (halv_bits bt _ _ k) (by decide), b2.up (by decide), fun k => by rw [c1]; exact Bits.up (halv_bits bt _ _ k) (by decide), b2.up (by decide), fun k hk => by rw [c1], fun H2 s2 => ?_⟩
  have s12 := s1.trans s2
  try dsimp only [List.set]
  walk_at "zz"
  refine ⟨_, _, _, rfl, p, ts, i, j, rfl, rfl, rfl, s12 _ _ hp, by omega, i0, i1, j0, j1, fun q2 H3 row2 hq2 s3 e2 l2 c2 => ?_⟩
  have s13 := s12.trans s3
  try dsimp only [List.set]
  walk_at "zz"
  refine ⟨_, _, _, rfl, m, q2, zs, row2, _, _, _, rfl, rfl, rfl, fm.mono s13, s13 _ _ em, e2, by omega, by omega, by omega, fun k => Bits.up (movd_bits bt _ _ k) (by decide), b2.up (by decide), fun k => by rw [c2]; exact Bits.up (movd_bits bt _ _ k) (by decide), b2.up (by decide), fun k hk => by rw [c2], fun H4 s4 => ?_⟩
  try dsimp only [List.set]
  walk_at "zz"
  exact k H4 (s13.trans s4)
theorem c_law_both (L : Lw K mg) : Cal P w K mg base 5 "_law_both" (sp5 (fs_both K)) [] := by
  obtain ⟨fd, F⟩ := L.d_law_both
  exact ⟨⟨_, fd, ["told", "tops", "low", "i", "j"], [], ok_law_both L F, L.g_law_both, F.kp, F.bindsN (fun _ _ _ _ _ _ us hl => match us, hl with | [_, _, _, _, _], _ => rfl), .nil⟩⟩
end
end T
set_option maxHeartbeats 4000000
namespace T
open PySem PySem.Spec PyProof.Rows L2 Z
open S31 (cf)
open S30
def zLcR2 (g : TG) (tt : TT) (te : TE) (vs : List Nat) (σ : L2.St) (xs : List V) (H1 : Hp) (Q : VK) : Prop := ∃ i j : Int, xs = [.int i, .int j] ∧ (-(2 ^ 62) ≤ i ∧ i < 2 ^ 62 ∧ -(2 ^ 62) ≤ j ∧ j < 2 ^ 62) ∧ zLc (Itr i (j - i).toNat) g tt te vs σ H1 Q
theorem z_lcR2S {g : TG} {tt : TT} {te : TE} {t : TA} {vs : List Nat} {σ : L2.St} {H1 : Hp} {Q : VK} (q : t σ H1 fun xs H2 => zLcR2 g tt te vs σ xs H2 Q) : tLc (iRng2 t) g tt te vs σ H1 Q := q
theorem z_lcR2 {i j : Int} {m : Nat} {s : Nat} {te : TE} {σ : L2.St} {H1 : Hp} {Q : VK} (f : Nat → V) {vs : List Nat} (h : -1000000 ≤ i ∧ i < 1000000 ∧ -1000000 ≤ j ∧ j < 1000000) (hm : (j - i).toNat = m)
    (hs : ∀ (k : Nat) H (N : VK), k < m → Same H1 H → (∀ H4, Same H H4 → N (f k) H4) → wipe ((wipe σ vs).set s (some (.int (i + k)))) vs = wipe σ vs ∧ te ((wipe σ vs).set s (some (.int (i + k)))) H N)
    (k : ∀ D H', H1 D = none → Same H1 H' → H' D = some (.lst ((List.range m).map f)) → Q (.ref D) H') : zLcR2 (gName s) tYes te vs σ [.int i, .int j] H1 Q := by
  refine ⟨i, j, rfl, by omega, ?_⟩
  rw [hm]
  refine z_lcF (walk_range (lo := i) (n := m)) f (by omega) (fun _ _ => trivial) (fun k x H H' N hk s y c => ?_) k
  obtain ⟨rfl, rfl⟩ := y
  exact hs k H' N hk s c
def fs_at3 : F2 := fun x y H Q _ => ∃ (l : Addr) (A B C k : Int), x = .ref l ∧ y = .int k ∧ H l = some (.lst [.int A, .int B, .int C]) ∧ Bits 140 A ∧ Bits 140 B ∧ Bits 140 C ∧ Bits 20 k ∧ Q (.int (S66.qv A B C k)) H
theorem fr_isW {K : Frag} {H : Hp} {a : Addr} {T w : Int} {B : Nat} (h : Fr K H a T w) (w0 : 0 < w) (w1 : w ≤ 12) (bT : Bits B T) : IsW K H a ((T : Rat) / w) B := by
  obtain ⟨t, b, hr, b0, g, e⟩ := h
  obtain ⟨l1, l2, _⟩ := fr_le b0 g w0 e
  refine ⟨t, b, hr, b0, bT.le l2, Bits.small (n := 4) (by show -(16 : Int) < b; omega) (by show b < (16 : Int); omega), ?_⟩
  have w' := ne_cast (show w ≠ 0 by omega)
  have e' : (t : Rat) * (w : Rat) = (T : Rat) * (b : Rat) := by rw [← Rat.intCast_mul, ← Rat.intCast_mul, e]
  grind
theorem u_mkSC {K : Frag} {H : Hp} {Q : VK} {E : XK} {s x0 x1 x2 : Addr} {n : Int} {v0 v1 v2 : Rat} {B : Nat} (h : H s = some (.lst [.ref x0, .ref x1, .ref x2])) (h0 : IsW K H x0 v0 B) (h1 : IsW K H x1 v1 B) (h2 : IsW K H x2 v2 B) (n1 : 2 ≤ n) (n2 : n ≤ 200)
    (k : ∀ x H', Same H H' → IsSC K H' x n v0 v1 v2 B → Q (.ref x) H') : zMk (He.ga K "SixClaim") (sp3 (fs_scinit K)) [] E [.int n, .ref s] H Q :=
  fun x dx hx hdx ne => ⟨_, _, _, rfl, x, dx, s, H, n, _, rfl, rfl, rfl, rfl, hx, hdx, ne, h, rfl, n1, n2, fun H' t s' e1 e2 => ⟨rfl, k x H' s' ⟨dx, t, e1, x0, x1, x2, .inr e2, h0.mono s', h1.mono s', h2.mono s'⟩⟩⟩
theorem ch {A B C w n : Int} (hw : 0 < w) : Hold ((A : Rat) / w) ((B : Rat) / w) ((C : Rat) / w) n ↔ ∀ k, 1 ≤ k → k ≤ n → 0 ≤ S66.qv A B C k := by
  have hw' : (0 : Rat) < (w : Rat) := S66.c_lt.mpr hw
  unfold Hold
  constructor
  · intro h k k1 k2
    exact S66.rv0.mp ((S66.rv_over hw' _).mp (h k k1 k2))
  · intro h k k1 k2
    exact (S66.rv_over hw' _).mpr (S66.rv0.mpr (h k k1 k2))
def fs_lhold (K : Frag) : F4 := fun x y z v H Q _ => ∃ (p : Addr) (A B C ov m : Int) (b : Bool), x = .ref p ∧ y = .int ov ∧ z = .int m ∧ v = .bl b ∧ H p = some (.lst [.int A, .int B, .int C]) ∧ 1 ≤ ov ∧ ov ≤ 7 ∧ 2 ≤ m ∧ m ≤ 200 ∧ Bits 200 A ∧ Bits 200 B ∧ Bits 200 C ∧ (b = true ↔ ∀ k, 1 ≤ k → k ≤ m → 0 ≤ S66.qv A B C k) ∧ ∀ H', Same H H' → Q (.bl true) H'
def fs_lclaims (K : Frag) : F4 := fun x y z v H Q _ => ∃ (p : Addr) (A B C ov m : Int) (ts : List Int), x = .ref p ∧ y = .int ov ∧ z = .int m ∧ v = .int (S63.six A B C ts) ∧ H p = some (.lst [.int A, .int B, .int C]) ∧ 1 ≤ ov ∧ ov ≤ 7 ∧ 2 ≤ m ∧ m ≤ 200 ∧ Bits 130 A ∧ Bits 130 B ∧ Bits 130 C ∧ ts.length = m.toNat ∧ (∀ x, x ∈ ts → 0 ≤ x) ∧ ∀ H', Same H H' → Q (.bl true) H'
def fs_lvalue (K : Frag) : F5 := fun x y z u v H Q _ => ∃ (p gs q : Addr) (A B C ov low : Int) (xs : List V) (T : Nat → Int) (ts : List Int), x = .ref p ∧ y = .int ov ∧ z = .ref gs ∧ u = .ref q ∧ v = .int low ∧ H p = some (.lst [.int A, .int B, .int C]) ∧ H q = some (.lst (ts.map V.int)) ∧ 1 ≤ ov ∧ ov ≤ 7 ∧ Bits 130 A ∧ Bits 130 B ∧ Bits 130 C ∧
  FS K H gs xs T low ∧ xs.length = ts.length ∧ 1 ≤ xs.length ∧ xs.length ≤ 200 ∧ (∀ k, k < xs.length → T k = cf ts k) ∧ (∀ k, k < xs.length → 0 ≤ T k) ∧ (∀ k, Bits 60 (T k)) ∧ (∀ k, Bits 60 (cf ts k)) ∧ 0 < low ∧ Bits 12 low ∧ ∀ H', Same H H' → Q (.bl true) H'
theorem six_bits {A B C : Int} {ts : List Int} (ba : Bits 130 A) (bb : Bits 130 B) (bc : Bits 130 C) (h : ∀ k, Bits 60 (cf ts k)) (hn : ts.length ≤ 1000) : Bits 345 (S63.six A B C ts) := by
  obtain ⟨b1, b2, b3⟩ := s_bits h hn
  unfold S63.six
  exact Bits.up (Bits.add (a := 342) (Bits.up (ba.mul b3) (by decide)) (Bits.up (Bits.mul (a := 271) (Bits.add (a := 270) (Bits.up (bb.mul b2) (by decide)) (Bits.up ((bc.mul b1).mul b1) (by decide))) b1) (by decide))) (by decide)
theorem three_bits {A B C : Int} {N : Nat} (ba : Bits N A) (bb : Bits N B) (bc : Bits N C) (k : Nat) : Bits N (cf [A, B, C] k) := by
  match k with
  | 0 => exact ba
  | 1 => exact bb
  | 2 => exact bc
  | k + 3 =>
    rw [S31.cf_out (by show 3 ≤ k + 3; omega)]
    exact Bits.zero
theorem sm200 {n : Int} (h1 : -500 < n) (h2 : n < 500) {B : Nat} (hB : 9 ≤ B) : Bits B n := Bits.up (Bits.small (n := 9) (by show -(512 : Int) < n; omega) (by show n < (512 : Int); omega)) hB
/-! the readings' steps, as one word: walk_at "z" (one step), "zz" (as far as it goes), "up" (a fact carried here) -/
local macro_rules | `(tactic| walk_at "up") => `(tactic| first
  | assumption
  | (refine' IsR.mono (by assumption) ?zup; case zup => walk_at "up")
  | (refine' IsE.mono (by assumption) ?zup; case zup => walk_at "up")
  | (refine' Same.at (by assumption) ?zup; case zup => walk_at "up")
  | (refine' SqL.of ?zup; case zup => walk_at "up")
  | (refine' L2.Same.seq (by assumption) ?zup; case zup => walk_at "up"))
local macro_rules | `(tactic| walk_at "z") => `(tactic| first
  | ((with_reducible refine' z_var ?zvh ?_); (case zvh => exact rfl))
  | with_reducible refine z_c ?_
  | with_reducible refine z_cons ?_
  | with_reducible refine z_nil ?_
  | with_reducible refine z_op ?_
  | with_reducible refine z_nx ?_
  | with_reducible refine z_seq ?_
  | with_reducible refine z_asg ?_
  | with_reducible refine z_asgG ?_
  | with_reducible refine z_call ?_
  | with_reducible refine z_sq0 ?_
  | with_reducible refine z_sq1 ?_
  | with_reducible refine z_ifS ?_
  | with_reducible refine z_test ?_
  | with_reducible refine z_tb ?_
  | with_reducible refine z_bl ?_
  | with_reducible refine z_blI ?_
  | with_reducible refine z_ret ?_
  | with_reducible refine z_rt ?_
  | with_reducible refine z_T ?_
  | with_reducible refine z_F ?_
  | with_reducible refine z_add ?_
  | with_reducible refine z_sub ?_
  | with_reducible refine z_neg ?_
  | with_reducible refine z_un ?_
  | with_reducible refine z_eqI ?_
  | with_reducible refine z_neI ?_
  | with_reducible refine z_lt ?_
  | with_reducible refine z_le ?_
  | with_reducible refine z_gt ?_
  | with_reducible refine z_ge ?_
  | with_reducible refine z_not ?_
  | with_reducible refine z_and ?_
  | with_reducible refine z_or ?_
  | with_reducible refine z_andV ?_
  | with_reducible refine z_orV ?_
  | with_reducible refine z_notV ?_
  | with_reducible refine z_if ?_
  | with_reducible refine z_cb ?_
  | with_reducible refine z_int1 ?_
  | with_reducible refine z_intb ?_
  | with_reducible refine z_abs ?_
  | with_reducible refine z_gcd ?_
  | with_reducible refine z_isi_ii ?_
  | with_reducible refine z_isi_ib ?_
  | with_reducible refine z_next ?_
  | with_reducible refine z_drop ?_
  | with_reducible refine z_par ?_
  | with_reducible refine z_par2 ?_
  | with_reducible refine z_tupN ?_
  | with_reducible refine z_lstN ?_
  | ((with_reducible refine' z_nt ?zl1 ?_); (case zl1 => exact Nat.le_of_ble_eq_true rfl); intro p H' hp hs he)
  | ((with_reducible refine' z_gtup ?zl1 ?zl2 ?_); (case zl1 => walk_at "up"); (case zl2 => exact rfl))
  | with_reducible refine z_bk ?_
  | with_reducible refine z_ct ?_
  | with_reducible refine z_break ?_
  | with_reducible refine z_cont ?_
  | with_reducible refine z_retN ?_
  | with_reducible refine z_nn ?_
  | with_reducible refine z_mk ?_
  | with_reducible refine z_gn ?_
  | with_reducible refine z_gcons ?_
  | with_reducible refine z_gnil ?_
  | with_reducible refine z_mt ?_
  | with_reducible refine z_mko ?_
  | with_reducible refine z_for2 ?_
  | with_reducible refine z_ownI ?_
  | ((with_reducible refine' z_lenL ?zl1 ?_); (case zl1 => walk_at "up"))
  | ((with_reducible refine' z_ixT ?zl1 ?zl2 ?_); (case zl1 => walk_at "up"); (case zl2 => exact rfl))
  | ((with_reducible refine' z_mulL ?zl1 ?zl2 ?_); (case zl1 => omega); (case zl2 => omega))
  | ((with_reducible refine' z_mulR ?zl1 ?zl2 ?_); (case zl1 => omega); (case zl2 => omega))
  | ((with_reducible refine' z_divS ?zl1 ?zl2 ?_); (case zl1 => omega); (case zl2 => omega))
  | ((with_reducible refine' z_mulW ?zl1 ?zl2 ?zl3 ?zl4 ?_); (case zl1 => omega); (case zl2 => omega); (case zl3 => omega); (case zl4 => omega))
  | ((with_reducible refine' z_divW ?zl1 ?zl2 ?_); (case zl1 => omega); (case zl2 => omega)))
local macro_rules | `(tactic| walk_at "zz") => `(tactic| repeat (walk_at "z"))
local macro_rules | `(tactic| walk_at "z") => `(tactic| with_reducible refine z_lstN ?_)
local macro_rules | `(tactic| walk_at "z") => `(tactic| with_reducible refine z_p6 ?_)
local macro_rules | `(tactic| walk_at "z") => `(tactic| with_reducible refine z_p12 ?_)
local macro_rules | `(tactic| walk_at "z") => `(tactic| with_reducible refine z_p13 ?_)
local macro_rules | `(tactic| walk_at "z") => `(tactic| with_reducible refine z_calln ?_)
local macro_rules | `(tactic| walk_at "z") => `(tactic| with_reducible refine z_xfS ?_)
local macro_rules | `(tactic| walk_at "z") => `(tactic| with_reducible refine z_lcS ?_)
local macro_rules | `(tactic| walk_at "z") => `(tactic| with_reducible refine z_lcRS ?_)
local macro_rules | `(tactic| walk_at "z") => `(tactic| with_reducible refine z_lcZS ?_)
local macro_rules | `(tactic| walk_at "z") => `(tactic| with_reducible refine z_foS ?_)
local macro_rules | `(tactic| walk_at "z") => `(tactic| with_reducible refine z_for1 ?_)
local macro_rules | `(tactic| walk_at "z") => `(tactic| with_reducible refine z_tsl ?_)
local macro_rules | `(tactic| walk_at "z") => `(tactic| with_reducible refine z_np ?_)
local macro_rules | `(tactic| walk_at "z") => `(tactic| with_reducible refine z_pt ?_)
local macro_rules | `(tactic| walk_at "z") => `(tactic| with_reducible refine z_pti ?_)
local macro_rules | `(tactic| walk_at "z") => `(tactic| with_reducible refine z_catI ?_)
local macro_rules | `(tactic| walk_at "z") => `(tactic| with_reducible refine z_isNI ?_)
local macro_rules | `(tactic| walk_at "z") => `(tactic| with_reducible refine z_isNN ?_)
local macro_rules | `(tactic| walk_at "z") => `(tactic| with_reducible refine z_notNI ?_)
local macro_rules | `(tactic| walk_at "z") => `(tactic| with_reducible refine z_notNN ?_)
local macro_rules | `(tactic| walk_at "z") => `(tactic| with_reducible refine z_gsub ?_)
local macro_rules | `(tactic| walk_at "z") => `(tactic| with_reducible refine z_isNb ?_)
local macro_rules | `(tactic| walk_at "z") => `(tactic| with_reducible refine z_notNb ?_)
local macro_rules | `(tactic| walk_at "z") => `(tactic| ((with_reducible refine' z_nlR ?zl1 ?_); (case zl1 => exact Nat.le_of_ble_eq_true rfl); intro p H' hp hs he))
local macro_rules | `(tactic| walk_at "z") => `(tactic| ((with_reducible refine' z_repR ?zl1 ?zl2 ?_); (case zl1 => omega); (case zl2 => omega)))
local macro_rules | `(tactic| walk_at "z") => `(tactic| ((with_reducible refine' z_repL ?zl1 ?zl2 ?_); (case zl1 => omega); (case zl2 => omega)))
local macro_rules | `(tactic| walk_at "z") => `(tactic| ((with_reducible refine' z_lenLst ?zl1 ?_); (case zl1 => walk_at "up")))
local macro_rules | `(tactic| walk_at "z") => `(tactic| ((with_reducible refine' z_cat ?zl1 ?zl2 ?zl3 ?_); (case zl1 => walk_at "up"); (case zl2 => walk_at "up"); (case zl3 => (simp only [List.length_map, List.length_cons, List.length_nil, List.length_append, List.length_replicate]; omega)); intro p H' hp hs he))
local macro_rules | `(tactic| walk_at "z") => `(tactic| with_reducible refine z_sfl ?_)
local macro_rules | `(tactic| walk_at "z") => `(tactic| with_reducible refine z_lcES ?_)
local macro_rules | `(tactic| walk_at "z") => `(tactic| with_reducible refine z_lcMS ?_)
local macro_rules | `(tactic| walk_at "z") => `(tactic| with_reducible refine z_foES ?_)
local macro_rules | `(tactic| walk_at "z") => `(tactic| with_reducible refine z_fo3S ?_)
local macro_rules | `(tactic| walk_at "z") => `(tactic| with_reducible refine z_sta ?_)
local macro_rules | `(tactic| walk_at "z") => `(tactic| with_reducible refine z_sta1 ?_)
local macro_rules | `(tactic| walk_at "z") => `(tactic| with_reducible refine z_lcTS ?_)
local macro_rules | `(tactic| walk_at "z") => `(tactic| with_reducible refine z_foTS ?_)
local macro_rules | `(tactic| walk_at "z") => `(tactic| with_reducible refine z_revTS ?_)
local macro_rules | `(tactic| walk_at "z") => `(tactic| with_reducible refine z_max2 ?_)
local macro_rules | `(tactic| walk_at "z") => `(tactic| ((with_reducible refine' z_fldt ?zc1 ?zc2 ?zl1 ?zl2 ?_); (case zc1 => exact Lw.cl_Ratio (by assumption)); (case zc2 => exact Lw.na_Ratio_top (by assumption)); (case zl1 => exact rfl); (case zl2 => walk_at "up")))
local macro_rules | `(tactic| walk_at "z") => `(tactic| ((with_reducible refine' z_fldb ?zc1 ?zc2 ?zl1 ?zl2 ?_); (case zc1 => exact Lw.cl_Ratio (by assumption)); (case zc2 => exact Lw.na_Ratio_bottom (by assumption)); (case zl1 => exact rfl); (case zl2 => walk_at "up")))
local macro_rules | `(tactic| walk_at "z") => `(tactic| ((with_reducible refine' u_mtF ?zl1 ?_); (case zl1 => walk_at "up")))
local macro_rules | `(tactic| walk_at "z") => `(tactic| with_reducible refine z_oaI ?_)
local macro_rules | `(tactic| walk_at "z") => `(tactic| with_reducible refine z_osI ?_)
local macro_rules | `(tactic| walk_at "z") => `(tactic| with_reducible refine z_asg2S ?_)
local macro_rules | `(tactic| walk_at "z") => `(tactic| ((with_reducible refine' z_ixLst ?zl1 ?zl2 ?_); (case zl1 => walk_at "up"); (case zl2 => exact rfl)))
local macro_rules | `(tactic| walk_at "z") => `(tactic| ((with_reducible refine' u_draw ?zl1 ?zl2 ?zl3 ?zl4 ?zl5 ?_); (case zl1 => walk_at "up"); (case zl2 => omega); (case zl3 => omega); (case zl4 => omega); (case zl5 => omega); intro r r0 r1))
local macro_rules | `(tactic| walk_at "z") => `(tactic| ((with_reducible refine' u_cell ?zl1 ?zl2 ?_); (case zl1 => walk_at "up"); (case zl2 => omega); intro c))
local macro_rules | `(tactic| walk_at "z") => `(tactic| with_reducible refine z_eqB ?_)
local macro_rules | `(tactic| walk_at "z") => `(tactic| with_reducible refine z_isB ?_)
local macro_rules | `(tactic| walk_at "z") => `(tactic| with_reducible refine u_whole1 ?_)
local macro_rules | `(tactic| walk_at "z") => `(tactic| ((with_reducible refine' u_mtSC ?zl1 ?_); (case zl1 => walk_at "up")))
local macro_rules | `(tactic| walk_at "z") => `(tactic| with_reducible refine z_lcR2S ?_)
theorem same63d {H H1 H2 : Hp} (h : Same H1 H2) (e : Same H H1) : Same H H2 := e.trans h
local macro_rules | `(tactic| walk_at "sm") => `(tactic| first
  | assumption
  | exact fun _ _ h => h
  | (refine' same63d (by assumption) ?zsm; case zsm => walk_at "sm"))
local macro_rules | `(tactic| walk_at "up") => `(tactic| first
  | assumption
  | (with_reducible refine' IsR.mono (by assumption) ?zup; case zup => walk_at "up")
  | (with_reducible refine' Fr.mono (by assumption) ?zup; case zup => walk_at "up")
  | (with_reducible refine' FS.mono (by assumption) ?zup; case zup => walk_at "up")
  | (with_reducible refine' Sq2.mono (by assumption) ?zup; case zup => walk_at "up")
  | (with_reducible refine' Same.at (by assumption) ?zup; case zup => walk_at "up")
  | (with_reducible refine' IsPool.mono (by assumption) ?zup; case zup => walk_at "up")
  | (with_reducible refine' IsSC.mono (by assumption) ?zup; case zup => walk_at "up")
  | (with_reducible refine' QP.mono (by assumption) ?zup; case zup => walk_at "up")
  | (with_reducible refine' IsW.mono (by assumption) ?zup; case zup => walk_at "up")
  | fail)
section
variable {P : Program} {w : World} {K : Frag} {mg : Str → Option Value} {base : Heap}
theorem ok_law_at (L : Lw K mg) {fd : FuncData} (F : FunD K "_law_at" "_law_at" (defArgs s_law_at) (defBody s_law_at) (defScope s_law_at) (df_law_at.dvs K) (df_law_at.kws K) (He.fAd K ("_law_at", none)) fd) : FnOk P w K mg base (L2N.CX P w) 1 (He.fAd K ("_law_at", none)) fd (["q", "k"] : List Str) (sp2 fs_at3) := by
  refine FunD.ok F sc_law_at len2 (fun cdv A outer s H vs Q E hr h => ?_)
  obtain ⟨x, y, rfl, h⟩ := h
  refine ⟨_, (pss_one (ps_ret (pe_op o_cat (pe_ix (ix_seqK (K := K) rfl) (pv 0) pe_int (fun _ _ => rfl)) (pe_op o_rep (pv 1) (pe_op o_cat (pe_ix (ix_seqK (K := K) rfl) (pv 0) pe_int (fun _ _ => rfl)) (pe_op o_rep (pv 1) (pe_ix (ix_seqK (K := K) rfl) (pv 0) pe_int (fun _ _ => rfl)))))))), ?_⟩
  obtain ⟨l, a, b, c, k, rfl, rfl, hl, ba, bb, bc, bk, q⟩ := h
  walk_at "zz"
  refine z_repU bk bc (by decide) ?_
  walk_at "zz"
  refine z_repU bk (Bits.add (a := 160) (bb.up (by decide)) (bk.mul bc)) (by decide) ?_
  walk_at "zz"
  exact q
theorem c_law_at (L : Lw K mg) : Cal P w K mg base 1 "_law_at" (sp2 fs_at3) [] := by
  obtain ⟨fd, F⟩ := L.d_law_at
  exact ⟨⟨_, fd, ["q", "k"], [], ok_law_at L F, L.g_law_at, F.kp, F.bindsN (fun _ _ _ _ _ _ us hl => match us, hl with | [_, _], _ => rfl), .nil⟩⟩
theorem ok_law_holds (L : Lw K mg) {fd : FuncData} (F : FunD K "_law_holds" "_law_holds" (defArgs s_law_holds) (defBody s_law_holds) (defScope s_law_holds) (df_law_holds.dvs K) (df_law_holds.kws K) (He.fAd K ("_law_holds", none)) fd) : FnOk P w K mg base (L2N.CX P w) 9 (He.fAd K ("_law_holds", none)) fd (["numbers", "over", "m", "due"] : List Str) (sp4 (fs_lhold K)) := by
  refine FunD.ok F sc_law_holds len4 (fun cdv A outer s H vs Q E hr h => ?_)
  obtain ⟨x, y, z, v, rfl, h⟩ := h
  refine ⟨_, (pss_cons (ps_set (i := 4) sc_law_holds.nd rfl (by first | exact Or.inl rfl | exact Or.inr rfl) (pe_mk (c_SixClaimD_initD (K := K) L) hr (by decide) (L2N.takes_of rfl rfl rfl rfl) (pa_cons (pv 2) (pa_cons (pe_c (c_law_shares (K := K) L) hr (by decide) (L2N.takes_of rfl rfl rfl rfl) (pa_cons (pv 0) (pa_cons (pv 1) pa_nil))) pa_nil))))
    (pss_one (ps_ret (pe_c (c_law_flag (K := K) L) hr (by decide) (L2N.takes_of rfl rfl rfl rfl) (pa_cons (pe_mt0 (c_SixClaim_holds (K := K) L) hr (by decide) (L2N.takes_of rfl rfl rfl rfl) (pv 4)) (pa_cons (pv 3) pa_nil)))))), ?_⟩
  rw [show L2.start (["numbers", "over", "m", "due", "claim"] : List Str) [x, y, z, v] = [some x, some y, some z, some v, none] from rfl]
  obtain ⟨p, a, b, c, ov, m, bb, rfl, rfl, rfl, rfl, hp, o1, o2, m1, m2, ba, bb', bc, e, k⟩ := h
  try dsimp only [List.set]
  walk_at "zz"
  refine ⟨_, _, rfl, p, [a, b, c], ov, rfl, rfl, hp, Nat.le_of_ble_eq_true rfl, by omega, sm200 (by omega) (by omega) (by decide), fun g xs H1 hg s1 hF eg lx => ?_⟩
  have lx : xs.length = 3 := lx
  obtain ⟨y0, y1, y2, rfl⟩ := three_ex lx
  obtain ⟨n0, rfl, f0⟩ := hF.2 0 y0 rfl
  obtain ⟨n1, rfl, f1⟩ := hF.2 1 y1 rfl
  obtain ⟨n2, rfl, f2⟩ := hF.2 2 y2 rfl
  try dsimp only [List.set]
  walk_at "zz"
  refine u_mkSC eg (fr_isW f0 (by omega) (by omega) ba) (fr_isW f1 (by omega) (by omega) bb') (fr_isW f2 (by omega) (by omega) bc) m1 m2 (fun x H2 s2 hx => ?_)
  try dsimp only [List.set]
  walk_at "zz"
  refine ⟨_, rfl, x, m, _, _, _, 200, rfl, hx, by decide, by decide, by omega, m2, fun r H3 s3 er => ?_⟩
  have ho := ch (A := a) (B := b) (C := c) (w := ov) (n := m) (by omega)
  have rb : r = bb := by
    have := er.trans (ho.trans e.symm)
    cases r <;> cases bb <;> simp_all
  try dsimp only [List.set]
  walk_at "zz"
  exact u_flag rb (k H3 ((s1.trans s2).trans s3))
theorem c_law_holds (L : Lw K mg) : Cal P w K mg base 9 "_law_holds" (sp4 (fs_lhold K)) [] := by
  obtain ⟨fd, F⟩ := L.d_law_holds
  exact ⟨⟨_, fd, ["numbers", "over", "m", "due"], [], ok_law_holds L F, L.g_law_holds, F.kp, F.bindsN (fun _ _ _ _ _ _ us hl => match us, hl with | [_, _, _, _], _ => rfl), .nil⟩⟩
theorem ok_law_claims (L : Lw K mg) {fd : FuncData} (F : FunD K "_law_claims" "_law_claims" (defArgs s_law_claims) (defBody s_law_claims) (defScope s_law_claims) (df_law_claims.dvs K) (df_law_claims.kws K) (He.fAd K ("_law_claims", none)) fd) : FnOk P w K mg base (L2N.CX P w) 10 (He.fAd K ("_law_claims", none)) fd (["numbers", "over", "m", "start"] : List Str) (sp4 (fs_lclaims K)) := by
  refine FunD.ok F sc_law_claims len4 (fun cdv A outer s H vs Q E hr h => ?_)
  obtain ⟨x, y, z, v, rfl, h⟩ := h
  refine ⟨_, (pss_cons (ps_setLc (i := 4) (own := [("k", 5)]) (g := (gName 5)) (tt := tYes) rfl sc_law_claims.nd rfl rfl (sw_true rfl rfl rfl (by decide +kernel)) (pi_range2 (by rfl) L.f_range (pa_cons pe_int (pa_cons (pe_op o_cat (pv 2) pe_int) pa_nil))) (blkOk_by (N := ["numbers", "over", "m", "start", "values", "k", "least", "lower"]) (sc := defScope s_law_claims) (by decide +kernel)) (fun _ _ _ _ _ => pg_name (i := 5) sc_law_claims.nd rfl (Or.inl rfl)) (fun _ _ _ _ _ => pts_nil) (fun _ _ _ _ _ => (pe_c (c_law_at (K := K) L) hr (by decide) takesF (pa_cons (pv 0) (pa_cons (pv 5) pa_nil)))))
    (pss_cons (ps_set (i := 6) sc_law_claims.nd rfl (by first | exact Or.inl rfl | exact Or.inr rfl) (pe_callB (callK rMin (K := K) rfl (cr_min rfl)) (by rfl) L.f_min (by decide +kernel) (pa_cons (pv 4) pa_nil)))
    (pss_cons (ps_if (PW.pt (pw_and (pt_cmpR o_ge (pv 6) pe_int (nomark _)) (pw_and1 (pt_cmpR o_lt (pv 3) pe_int (nomark _))))) (pss_one (ps_ret pe_bl)) pss_nil)
    (pss_cons (ps_if (pt_not (pt_val (pe_c (c_law_holds (K := K) L) hr (by decide) (L2N.takes_of rfl rfl rfl rfl) (pa_cons (pv 0) (pa_cons (pv 1) (pa_cons (pv 2) (pa_cons (pe_cmpR o_ge (pv 6) pe_int (nomark _)) pa_nil))))))) (pss_one (ps_ret pe_bl)) pss_nil)
    (pss_cons (ps_set (i := 7) sc_law_claims.nd rfl (by first | exact Or.inl rfl | exact Or.inr rfl) (pe_lst (pa_cons (pe_op o_sub (pe_ix (ix_seqK (K := K) rfl) (pv 0) pe_int (fun _ _ => rfl)) (pv 6)) (pa_cons (pe_ix (ix_seqK (K := K) rfl) (pv 0) pe_int (fun _ _ => rfl)) (pa_cons (pe_ix (ix_seqK (K := K) rfl) (pv 0) pe_int (fun _ _ => rfl)) pa_nil)))))
    (pss_cons (ps_if (pt_not (pt_val (pe_c (c_law_holds (K := K) L) hr (by decide) (L2N.takes_of rfl rfl rfl rfl) (pa_cons (pv 7) (pa_cons (pv 1) (pa_cons (pv 2) (pa_cons pe_bl pa_nil))))))) (pss_one (ps_ret pe_bl)) pss_nil)
    (pss_cons (ps_asg (pe_op o_sub (pe_ix (ix_seqK (K := K) rfl) (pv 7) pe_int (fun _ _ => rfl)) pe_int) (pg_sub (pv 7) pe_int set_list))
    (pss_one (ps_ret (pe_c (c_law_holds (K := K) L) hr (by decide) (L2N.takes_of rfl rfl rfl rfl) (pa_cons (pv 7) (pa_cons (pv 1) (pa_cons (pv 2) (pa_cons pe_bl pa_nil)))))))))))))), ?_⟩
  rw [show L2.start (["numbers", "over", "m", "start", "values", "k", "least", "lower"] : List Str) [x, y, z, v] = [some x, some y, some z, some v, none, none, none, none] from rfl]
  obtain ⟨p, a, b, c, ov, m, ts, rfl, rfl, rfl, rfl, hp, o1, o2, m1, m2, ba, bb, bc, lt, nn, k⟩ := h
  try dsimp only [List.set]
  walk_at "zz"
  refine z_lcR2 (m := m.toNat) (fun k => V.int (S66.qv a b c (1 + k))) (by omega) (by omega) (fun j H2 N2 hj s2 cc => ⟨rfl, ?_⟩) (fun D HD hD sD hlD => ?_)
  · try dsimp only [List.set]
    walk_at "zz"
    exact ⟨_, _, rfl, p, a, b, c, _, rfl, rfl, s2 _ _ hp, ba.up (by decide), bb.up (by decide), bc.up (by decide), sm200 (by omega) (by omega) (by decide), cc _ (fun _ _ h => h)⟩
  have em : (List.range m.toNat).map (fun k : Nat => V.int (S66.qv a b c (1 + (k : Int)))) = ((List.range m.toNat).map fun k : Nat => S66.qv a b c (1 + (k : Int))).map V.int := by rw [List.map_map] <;> rfl
  rw [em] at hlD
  have hp1 := sD _ _ hp
  try dsimp only [List.set]
  walk_at "zz"
  refine z_minL hlD (by simp; omega) (fun ls lm ll => ?_)
  have lall : ∀ k, 1 ≤ k → k ≤ m → ls ≤ S66.qv a b c k := fun k k1 k2 => ll _ (by
    refine List.mem_map.mpr ⟨(k - 1).toNat, List.mem_range.mpr (by omega), ?_⟩
    rw [show (1 : Int) + ((k - 1).toNat : Int) = k by omega])
  obtain ⟨k0, k01, k02, k03⟩ : ∃ k0, 1 ≤ k0 ∧ k0 ≤ m ∧ S66.qv a b c k0 = ls := by
    obtain ⟨j, hj, e⟩ := List.mem_map.mp lm
    have := List.mem_range.mp hj
    exact ⟨1 + j, by omega, by omega, e⟩
  have bls : Bits 190 ls := by
    rw [← k03]
    unfold S66.qv
    have bk : Bits 9 k0 := sm200 (by omega) (by omega) (by decide)
    exact Bits.up (Bits.add (a := 151) (ba.up (by decide)) (Bits.up (bk.mul (Bits.add (a := 139) (bb.up (by decide)) (bk.mul bc))) (by decide))) (by decide)
  have lq : ∀ k, S66.qv (a - ls) b c k = S66.qv a b c k - ls := fun k => by
    unfold S66.qv
    omega
  try dsimp only [List.set]
  walk_at "zz"
  have go : ¬ (0 ≤ ls ∧ S63.six a b c ts < 0) := fun ⟨z1, z2⟩ => by
    have := S63.six_nn (a := a) (b := b) (c := c) (n := m.toNat) (fun k k1 k2 => by
      have := lall k k1 (by omega)
      have e : S66.qv a b c k = a + k * (b + k * c) := rfl
      omega) ts.length ts rfl (by omega) nn
    omega
  have rest : ∀ X : Prop, X → X := fun _ x => x
  refine z_d2 (fun c1 => ?_) (fun c1 => ?_)
  · try dsimp only [List.set]
    walk_at "zz"
    refine z_dF (fun z => go ⟨c1, z⟩) ?_
    try dsimp only [List.set]
    walk_at "zz"
    refine ⟨_, _, _, _, rfl, p, a, b, c, ov, m, _, rfl, rfl, rfl, rfl, hp1, o1, o2, m1, m2, ba.up (by decide), bb.up (by decide), bc.up (by decide), ?_, fun H2 s2 => ?_⟩
    · rw [decide_eq_true_eq]
      constructor
      · intro z k k1 k2
        have := lall k k1 k2
        omega
      · intro z
        have := z k0 k01 k02
        omega
    have hp2 := s2 _ _ hp1
    try dsimp only [List.set]
    walk_at "zz"
    rename_i lw Hw hlw slw elw
    refine ⟨_, _, _, _, rfl, lw, a - ls, b, c, ov, m, true, rfl, rfl, rfl, rfl, elw, o1, o2, m1, m2, Bits.up (Bits.sub (a := 190) (ba.up (by decide)) bls) (by decide), bb.up (by decide), bc.up (by decide), ⟨fun _ k k1 k2 => by rw [lq]; have := lall k k1 k2; omega, fun _ => rfl⟩, fun H3 s3 => ?_⟩
    have elw3 := s3 _ _ elw
    try dsimp only [List.set]
    walk_at "zz"
    refine z_setL (j := 0) elw3 rfl (Nat.le_of_ble_eq_true rfl) ?_
    have elw4 : (upd H3 lw (.lst [.int (a - ls - 1), .int b, .int c])) lw = some (.lst [.int (a - ls - 1), .int b, .int c]) := upd_same
    have sall : Same H (upd H3 lw (.lst [.int (a - ls - 1), .int b, .int c])) := Same.put (((sD.trans s2).trans slw).trans s3) (Same.none (sD.trans s2) hlw)
    try dsimp only [List.set]
    walk_at "zz"
    refine ⟨_, _, _, _, rfl, lw, a - ls - 1, b, c, ov, m, false, rfl, rfl, rfl, rfl, elw4, o1, o2, m1, m2, Bits.up (Bits.sub (a := 191) (Bits.sub (a := 190) (ba.up (by decide)) bls) (sm200 (by decide) (by decide) (by decide))) (by decide), bb.up (by decide), bc.up (by decide), ⟨fun z => Bool.noConfusion z, fun z => ?_⟩, fun H4 s4 => ?_⟩
    · have := z k0 k01 k02
      have e : S66.qv (a - ls - 1) b c k0 = S66.qv a b c k0 - ls - 1 := by
        unfold S66.qv
        omega
      omega
    · exact k _ (sall.trans s4)
  · try dsimp only [List.set]
    walk_at "zz"
    refine ⟨_, _, _, _, rfl, p, a, b, c, ov, m, _, rfl, rfl, rfl, rfl, hp1, o1, o2, m1, m2, ba.up (by decide), bb.up (by decide), bc.up (by decide), ?_, fun H2 s2 => ?_⟩
    · rw [decide_eq_true_eq]
      constructor
      · intro z k k1 k2
        have := lall k k1 k2
        omega
      · intro z
        have := z k0 k01 k02
        omega
    have hp2 := s2 _ _ hp1
    try dsimp only [List.set]
    walk_at "zz"
    rename_i lw Hw hlw slw elw
    refine ⟨_, _, _, _, rfl, lw, a - ls, b, c, ov, m, true, rfl, rfl, rfl, rfl, elw, o1, o2, m1, m2, Bits.up (Bits.sub (a := 190) (ba.up (by decide)) bls) (by decide), bb.up (by decide), bc.up (by decide), ⟨fun _ k k1 k2 => by rw [lq]; have := lall k k1 k2; omega, fun _ => rfl⟩, fun H3 s3 => ?_⟩
    have elw3 := s3 _ _ elw
    try dsimp only [List.set]
    walk_at "zz"
    refine z_setL (j := 0) elw3 rfl (Nat.le_of_ble_eq_true rfl) ?_
    have elw4 : (upd H3 lw (.lst [.int (a - ls - 1), .int b, .int c])) lw = some (.lst [.int (a - ls - 1), .int b, .int c]) := upd_same
    have sall : Same H (upd H3 lw (.lst [.int (a - ls - 1), .int b, .int c])) := Same.put (((sD.trans s2).trans slw).trans s3) (Same.none (sD.trans s2) hlw)
    try dsimp only [List.set]
    walk_at "zz"
    refine ⟨_, _, _, _, rfl, lw, a - ls - 1, b, c, ov, m, false, rfl, rfl, rfl, rfl, elw4, o1, o2, m1, m2, Bits.up (Bits.sub (a := 191) (Bits.sub (a := 190) (ba.up (by decide)) bls) (sm200 (by decide) (by decide) (by decide))) (by decide), bb.up (by decide), bc.up (by decide), ⟨fun z => Bool.noConfusion z, fun z => ?_⟩, fun H4 s4 => ?_⟩
    · have := z k0 k01 k02
      have e : S66.qv (a - ls - 1) b c k0 = S66.qv a b c k0 - ls - 1 := by
        unfold S66.qv
        omega
      omega
    · exact k _ (sall.trans s4)
theorem c_law_claims (L : Lw K mg) : Cal P w K mg base 10 "_law_claims" (sp4 (fs_lclaims K)) [] := by
  obtain ⟨fd, F⟩ := L.d_law_claims
  exact ⟨⟨_, fd, ["numbers", "over", "m", "start"], [], ok_law_claims L F, L.g_law_claims, F.kp, F.bindsN (fun _ _ _ _ _ _ us hl => match us, hl with | [_, _, _, _], _ => rfl), .nil⟩⟩
theorem ok_law_value (L : Lw K mg) {fd : FuncData} (F : FunD K "_law_value" "_law_value" (defArgs s_law_value) (defBody s_law_value) (defScope s_law_value) (df_law_value.dvs K) (df_law_value.kws K) (He.fAd K ("_law_value", none)) fd) : FnOk P w K mg base (L2N.CX P w) 6 (He.fAd K ("_law_value", none)) fd (["numbers", "over", "given", "tops", "low"] : List Str) (sp5 (fs_lvalue K)) := by
  refine FunD.ok F sc_law_value len5 (fun cdv A outer s H vs Q E hr h => ?_)
  obtain ⟨x, y, z, u, v, rfl, h⟩ := h
  refine ⟨_, (pss_cons (ps_set (i := 5) sc_law_value.nd rfl (by first | exact Or.inl rfl | exact Or.inr rfl) (pe_c (c_six_of_shares (K := K) L) hr (by decide) (L2N.takes_of rfl rfl rfl rfl) (pa_cons (pe_c (c_law_shares (K := K) L) hr (by decide) (L2N.takes_of rfl rfl rfl rfl) (pa_cons (pv 0) (pa_cons (pv 1) pa_nil))) (pa_cons (pv 2) pa_nil))))
    (pss_one (ps_ret (pe_c (c_law_is (K := K) L) hr (by decide) (L2N.takes_of rfl rfl rfl rfl) (pa_cons (pv 5) (pa_cons (pe_c (c_law_six (K := K) L) hr (by decide) (L2N.takes_of rfl rfl rfl rfl) (pa_cons (pv 0) (pa_cons (pv 3) pa_nil))) (pa_cons (pe_op o_rep (pv 1) (pe_op o_pow (pv 4) pe_int)) pa_nil))))))), ?_⟩
  rw [show L2.start (["numbers", "over", "given", "tops", "low", "told"] : List Str) [x, y, z, u, v] = [some x, some y, some z, some u, some v, none] from rfl]
  obtain ⟨p, gs, q, a, b, c, ov, low, xs, T, ts, rfl, rfl, rfl, rfl, rfl, hp, hq, o1, o2, ba, bb, bc, hS, lx, m1, m2, eT, nn, bT, bt, l0, bl, k⟩ := h
  try dsimp only [List.set]
  walk_at "zz"
  refine ⟨_, _, rfl, p, [a, b, c], ov, rfl, rfl, hp, Nat.le_of_ble_eq_true rfl, by omega, sm200 (by omega) (by omega) (by decide), fun g yn H1 hg s1 hF eg lx' => ?_⟩
  have lx' : yn.length = 3 := lx'
  obtain ⟨y0, y1, y2, rfl⟩ := three_ex lx'
  obtain ⟨n0, rfl, f0⟩ := hF.2 0 y0 rfl
  obtain ⟨n1, rfl, f1⟩ := hF.2 1 y1 rfl
  obtain ⟨n2, rfl, f2⟩ := hF.2 2 y2 rfl
  try dsimp only [List.set]
  walk_at "zz"
  refine ⟨_, _, rfl, g, gs, _, xs, cf [a, b, c], T, ov, low, rfl, rfl, hF, hS.mono s1, by omega, l0, three_bits ba bb bc, sm200 (by omega) (by omega) (by decide), bT, bl, fun z => absurd lx' z, fun _ z => absurd ⟨m1, m2⟩ z, fun _ _ _ j x hx hj _ => absurd hj (by have := nn j (List.getElem?_eq_some_iff.mp hx).1; omega), fun _ _ _ _ x H2 s2 hx => ?_⟩
  try dsimp only [List.set]
  walk_at "zz"
  refine ⟨_, _, rfl, p, q, a, b, c, ts, rfl, rfl, s2 _ _ (s1 _ _ hp), s2 _ _ (s1 _ _ hq), by omega, ba, bb, bc, bt, fun H3 s3 => ?_⟩
  have b6 := six_bits ba bb bc bt (show ts.length ≤ 1000 by omega)
  have e6 : six (cf [a, b, c]) T xs.length = S63.six a b c ts := by
    rw [lx]
    exact six_list fun k hk => eT k (by omega)
  rw [e6] at hx
  have bo : Bits 9 ov := sm200 (by omega) (by omega) (by decide)
  have bl3 : Bits 36 (low * low * low) := (bl.mul bl).mul bl
  try dsimp only [List.set]
  walk_at "zz"
  refine z_pow ⟨by decide, by decide, Nat.lt_of_lt_of_le bl (Nat.pow_le_pow_right (by decide) (by decide))⟩ ?_
  have ep : low ^ (3 : Int).toNat = low * low * low := by
    show low ^ 3 = _
    rw [Int.pow_succ, Int.pow_succ, Int.pow_succ, Int.pow_zero, Int.one_mul]
  rw [ep]
  try dsimp only [List.set]
  walk_at "zz"
  have w0 : 0 < ov * (low * low * low) := Int.mul_pos (by omega) (Int.mul_pos (Int.mul_pos l0 l0) l0)
  exact u_is (hx.mono s3) w0 (b6.up (by decide)) (Bits.up (bo.mul bl3) (by decide)) (b6.up (by decide)) (Bits.up (bo.mul bl3) (by decide)) rfl (k _ ((s1.trans s2).trans s3))
theorem c_law_value (L : Lw K mg) : Cal P w K mg base 6 "_law_value" (sp5 (fs_lvalue K)) [] := by
  obtain ⟨fd, F⟩ := L.d_law_value
  exact ⟨⟨_, fd, ["numbers", "over", "given", "tops", "low"], [], ok_law_value L F, L.g_law_value, F.kp, F.bindsN (fun _ _ _ _ _ _ us hl => match us, hl with | [_, _, _, _, _], _ => rfl), .nil⟩⟩
end
end T
set_option maxHeartbeats 4000000
namespace T
open PySem PySem.Spec PyProof.Rows L2 Z
open S31 (cf)
open S30
/-- a list or a tuple of Ratios, all small -/
structure FB (K : Frag) (H : Hp) (g : Addr) (xs : List V) (T : Nat → Int) (w : Int) : Prop where
  fs : FS K H g xs T w
  w0 : 0 < w
  bT : ∀ k, Bits 60 (T k)
  bw : Bits 10 w
theorem FB.mono {K : Frag} {H H' : Hp} {g : Addr} {xs : List V} {T : Nat → Int} {w : Int} (s : Same H H') (h : FB K H g xs T w) : FB K H' g xs T w := ⟨h.fs.mono s, h.w0, h.bT, h.bw⟩
theorem FB.copy {K : Frag} {H H' : Hp} {g p : Addr} {xs : List V} {T : Nat → Int} {w : Int} (h : FB K H g xs T w) (s : Same H H') (e : H' p = some (.lst xs)) : FB K H' p xs T w := ⟨⟨.inl e, (h.fs.mono s).2⟩, h.w0, h.bT, h.bw⟩
def fs_neg (K : Frag) : F5 := fun x y z u v H Q _ => ∃ (gn gs : Addr) (xn xs : List V) (N T : Nat → Int) (wn w t lo way : Int) (k0 : Nat), x = .ref gn ∧ y = .ref gs ∧ z = .int t ∧ u = .int lo ∧ v = .int way ∧ FB K H gn xn N wn ∧ FB K H gs xs T w ∧ xn.length = 3 ∧ 1 ≤ xs.length ∧ xs.length ≤ 200 ∧ k0 < xs.length ∧ T k0 < 0 ∧ (∀ j, j < k0 → 0 ≤ T j) ∧ T k0 * lo = t * w ∧ Bits 60 t ∧ Bits 60 lo ∧ (way = 0 ∨ way = 1 ∨ way = 2) ∧ ∀ H', Same H H' → Q (.bl true) H'
def fs_lsize (K : Frag) : F4 := fun x y z v H Q _ => ∃ (gn gs : Addr) (xn xs : List V) (N T : Nat → Int) (wn w sz way : Int), x = .ref gn ∧ y = .ref gs ∧ z = .int sz ∧ v = .int way ∧ FB K H gn xn N wn ∧ FB K H gs xs T w ∧ ((way = 0 ∧ xn.length ≠ 3 ∧ sz = xn.length) ∨ (xn.length = 3 ∧ ¬ (1 ≤ xs.length ∧ xs.length ≤ 200) ∧ sz = xs.length)) ∧ ∀ H', Same H H' → Q (.bl true) H'
def fs_place (K : Frag) : F4 := fun x y z v H Q _ => ∃ (g : Addr) (xs : List V) (T : Nat → Int) (w i j val : Int), x = .ref g ∧ y = .int i ∧ z = .int j ∧ v = .int val ∧ FB K H g xs T w ∧ 1 ≤ xs.length ∧ xs.length ≤ 200 ∧ (∀ k, k < xs.length → 0 ≤ T k) ∧ ((¬ (0 ≤ i ∧ i < xs.length) ∧ val = i) ∨ (0 ≤ i ∧ i < xs.length ∧ ¬ (0 ≤ j ∧ j < xs.length ∧ j ≠ i) ∧ val = j)) ∧ ∀ H', Same H H' → Q (.bl true) H'
theorem u_place {K : Frag} {H : Hp} {Q : VK} {E : XK} {g : Addr} {xs : List V} {T : Nat → Int} {w i j val : Int} (h : FB K H g xs T w) (n1 : 1 ≤ xs.length) (n2 : xs.length ≤ 200) (nn : ∀ k, k < xs.length → 0 ≤ T k) (c : (¬ (0 ≤ i ∧ i < xs.length) ∧ val = i) ∨ (0 ≤ i ∧ i < xs.length ∧ ¬ (0 ≤ j ∧ j < xs.length ∧ j ≠ i) ∧ val = j)) (k : ∀ H', Same H H' → Q (.bl true) H') : sp4 (fs_place K) [.ref g, .int i, .int j, .int val] H Q E := ⟨_, _, _, _, rfl, g, xs, T, w, i, j, val, rfl, rfl, rfl, rfl, h, n1, n2, nn, c, k⟩
theorem u_size {K : Frag} {H : Hp} {Q : VK} {E : XK} {gn gs : Addr} {xn xs : List V} {N T : Nat → Int} {wn w sz way : Int} (hn : FB K H gn xn N wn) (hs : FB K H gs xs T w) (c : (way = 0 ∧ xn.length ≠ 3 ∧ sz = xn.length) ∨ (xn.length = 3 ∧ ¬ (1 ≤ xs.length ∧ xs.length ≤ 200) ∧ sz = xs.length)) (k : ∀ H', Same H H' → Q (.bl true) H') : sp4 (fs_lsize K) [.ref gn, .ref gs, .int sz, .int way] H Q E := ⟨_, _, _, _, rfl, gn, gs, xn, xs, N, T, wn, w, sz, way, rfl, rfl, rfl, rfl, hn, hs, c, k⟩
def fs_places (K : Frag) : F3 := fun x y z H Q _ => ∃ (g : Addr) (xs : List V) (T : Nat → Int) (w i j : Int), x = .ref g ∧ y = .int i ∧ z = .int j ∧ FB K H g xs T w ∧ 2 ≤ xs.length ∧ xs.length ≤ 200 ∧ (∀ k, k < xs.length → 0 ≤ T k) ∧ 0 ≤ i ∧ i < xs.length ∧ 0 ≤ j ∧ j < xs.length ∧ ∀ H', Same H H' → Q (.bl true) H'
def fs_refusals (K : Frag) : F5 := fun x y z u v H Q _ => ∃ (p : Addr) (ts : List Int) (low at' be am : Int), x = .ref p ∧ y = .int low ∧ z = .int at' ∧ u = .int be ∧ v = .int am ∧ H p = some (.lst (ts.map V.int)) ∧ 2 ≤ ts.length ∧ ts.length ≤ 200 ∧ (∀ k, 0 ≤ cf ts k) ∧ (∀ k, Bits 50 (cf ts k)) ∧ 1 ≤ low ∧ low ≤ 6 ∧ 0 ≤ at' ∧ at' < be ∧ be < ts.length ∧ 1 ≤ am ∧ am ≤ 40 ∧ ∀ H', Same H H' → Q (.bl true) H'
theorem four_at {a b c d : V} {k : Nat} {x : V} (h : [a, b, c, d][k]? = some x) : x = a ∨ x = b ∨ x = c ∨ x = d := by
  have := List.mem_of_getElem? h
  simpa using this
theorem five_at {a b c d e : V} {k : Nat} {x : V} (h : [a, b, c, d, e][k]? = some x) : x = a ∨ x = b ∨ x = c ∨ x = d ∨ x = e := by
  have := List.mem_of_getElem? h
  simpa using this
theorem FS.three {K : Frag} {H : Hp} {g a b c : Addr} {A B C w : Int} (h : H g = some (.lst [.ref a, .ref b, .ref c])) (fa : Fr K H a A w) (fb : Fr K H b B w) (fc : Fr K H c C w) : FS K H g [.ref a, .ref b, .ref c] (cf [A, B, C]) w := by
  refine ⟨.inl h, fun k x e => ?_⟩
  rcases three_at e with ⟨rfl, rfl⟩ | ⟨rfl, rfl⟩ | ⟨rfl, rfl⟩
  · exact ⟨_, rfl, fa⟩
  · exact ⟨_, rfl, fb⟩
  · exact ⟨_, rfl, fc⟩
/-! the readings' steps, as one word: walk_at "z" (one step), "zz" (as far as it goes), "up" (a fact carried here) -/
local macro_rules | `(tactic| walk_at "up") => `(tactic| first
  | assumption
  | (refine' IsR.mono (by assumption) ?zup; case zup => walk_at "up")
  | (refine' IsE.mono (by assumption) ?zup; case zup => walk_at "up")
  | (refine' Same.at (by assumption) ?zup; case zup => walk_at "up")
  | (refine' SqL.of ?zup; case zup => walk_at "up")
  | (refine' L2.Same.seq (by assumption) ?zup; case zup => walk_at "up"))
local macro_rules | `(tactic| walk_at "z") => `(tactic| first
  | ((with_reducible refine' z_var ?zvh ?_); (case zvh => exact rfl))
  | with_reducible refine z_c ?_
  | with_reducible refine z_cons ?_
  | with_reducible refine z_nil ?_
  | with_reducible refine z_op ?_
  | with_reducible refine z_nx ?_
  | with_reducible refine z_seq ?_
  | with_reducible refine z_asg ?_
  | with_reducible refine z_asgG ?_
  | with_reducible refine z_call ?_
  | with_reducible refine z_sq0 ?_
  | with_reducible refine z_sq1 ?_
  | with_reducible refine z_ifS ?_
  | with_reducible refine z_test ?_
  | with_reducible refine z_tb ?_
  | with_reducible refine z_bl ?_
  | with_reducible refine z_blI ?_
  | with_reducible refine z_ret ?_
  | with_reducible refine z_rt ?_
  | with_reducible refine z_T ?_
  | with_reducible refine z_F ?_
  | with_reducible refine z_add ?_
  | with_reducible refine z_sub ?_
  | with_reducible refine z_neg ?_
  | with_reducible refine z_un ?_
  | with_reducible refine z_eqI ?_
  | with_reducible refine z_neI ?_
  | with_reducible refine z_lt ?_
  | with_reducible refine z_le ?_
  | with_reducible refine z_gt ?_
  | with_reducible refine z_ge ?_
  | with_reducible refine z_not ?_
  | with_reducible refine z_and ?_
  | with_reducible refine z_or ?_
  | with_reducible refine z_andV ?_
  | with_reducible refine z_orV ?_
  | with_reducible refine z_notV ?_
  | with_reducible refine z_if ?_
  | with_reducible refine z_cb ?_
  | with_reducible refine z_int1 ?_
  | with_reducible refine z_intb ?_
  | with_reducible refine z_abs ?_
  | with_reducible refine z_gcd ?_
  | with_reducible refine z_isi_ii ?_
  | with_reducible refine z_isi_ib ?_
  | with_reducible refine z_next ?_
  | with_reducible refine z_drop ?_
  | with_reducible refine z_par ?_
  | with_reducible refine z_par2 ?_
  | with_reducible refine z_tupN ?_
  | with_reducible refine z_lstN ?_
  | ((with_reducible refine' z_nt ?zl1 ?_); (case zl1 => exact Nat.le_of_ble_eq_true rfl); intro p H' hp hs he)
  | ((with_reducible refine' z_gtup ?zl1 ?zl2 ?_); (case zl1 => walk_at "up"); (case zl2 => exact rfl))
  | with_reducible refine z_bk ?_
  | with_reducible refine z_ct ?_
  | with_reducible refine z_break ?_
  | with_reducible refine z_cont ?_
  | with_reducible refine z_retN ?_
  | with_reducible refine z_nn ?_
  | with_reducible refine z_mk ?_
  | with_reducible refine z_gn ?_
  | with_reducible refine z_gcons ?_
  | with_reducible refine z_gnil ?_
  | with_reducible refine z_mt ?_
  | with_reducible refine z_mko ?_
  | with_reducible refine z_for2 ?_
  | with_reducible refine z_ownI ?_
  | ((with_reducible refine' z_lenL ?zl1 ?_); (case zl1 => walk_at "up"))
  | ((with_reducible refine' z_ixT ?zl1 ?zl2 ?_); (case zl1 => walk_at "up"); (case zl2 => exact rfl))
  | ((with_reducible refine' z_mulL ?zl1 ?zl2 ?_); (case zl1 => omega); (case zl2 => omega))
  | ((with_reducible refine' z_mulR ?zl1 ?zl2 ?_); (case zl1 => omega); (case zl2 => omega))
  | ((with_reducible refine' z_divS ?zl1 ?zl2 ?_); (case zl1 => omega); (case zl2 => omega))
  | ((with_reducible refine' z_mulW ?zl1 ?zl2 ?zl3 ?zl4 ?_); (case zl1 => omega); (case zl2 => omega); (case zl3 => omega); (case zl4 => omega))
  | ((with_reducible refine' z_divW ?zl1 ?zl2 ?_); (case zl1 => omega); (case zl2 => omega)))
local macro_rules | `(tactic| walk_at "zz") => `(tactic| repeat (walk_at "z"))
local macro_rules | `(tactic| walk_at "z") => `(tactic| with_reducible refine z_lstN ?_)
local macro_rules | `(tactic| walk_at "z") => `(tactic| with_reducible refine z_p6 ?_)
local macro_rules | `(tactic| walk_at "z") => `(tactic| with_reducible refine z_p12 ?_)
local macro_rules | `(tactic| walk_at "z") => `(tactic| with_reducible refine z_p13 ?_)
local macro_rules | `(tactic| walk_at "z") => `(tactic| with_reducible refine z_calln ?_)
local macro_rules | `(tactic| walk_at "z") => `(tactic| with_reducible refine z_xfS ?_)
local macro_rules | `(tactic| walk_at "z") => `(tactic| with_reducible refine z_lcS ?_)
local macro_rules | `(tactic| walk_at "z") => `(tactic| with_reducible refine z_lcRS ?_)
local macro_rules | `(tactic| walk_at "z") => `(tactic| with_reducible refine z_lcZS ?_)
local macro_rules | `(tactic| walk_at "z") => `(tactic| with_reducible refine z_foS ?_)
local macro_rules | `(tactic| walk_at "z") => `(tactic| with_reducible refine z_for1 ?_)
local macro_rules | `(tactic| walk_at "z") => `(tactic| with_reducible refine z_tsl ?_)
local macro_rules | `(tactic| walk_at "z") => `(tactic| with_reducible refine z_np ?_)
local macro_rules | `(tactic| walk_at "z") => `(tactic| with_reducible refine z_pt ?_)
local macro_rules | `(tactic| walk_at "z") => `(tactic| with_reducible refine z_pti ?_)
local macro_rules | `(tactic| walk_at "z") => `(tactic| with_reducible refine z_catI ?_)
local macro_rules | `(tactic| walk_at "z") => `(tactic| with_reducible refine z_isNI ?_)
local macro_rules | `(tactic| walk_at "z") => `(tactic| with_reducible refine z_isNN ?_)
local macro_rules | `(tactic| walk_at "z") => `(tactic| with_reducible refine z_notNI ?_)
local macro_rules | `(tactic| walk_at "z") => `(tactic| with_reducible refine z_notNN ?_)
local macro_rules | `(tactic| walk_at "z") => `(tactic| with_reducible refine z_gsub ?_)
local macro_rules | `(tactic| walk_at "z") => `(tactic| with_reducible refine z_isNb ?_)
local macro_rules | `(tactic| walk_at "z") => `(tactic| with_reducible refine z_notNb ?_)
local macro_rules | `(tactic| walk_at "z") => `(tactic| ((with_reducible refine' z_nlR ?zl1 ?_); (case zl1 => exact Nat.le_of_ble_eq_true rfl); intro p H' hp hs he))
local macro_rules | `(tactic| walk_at "z") => `(tactic| ((with_reducible refine' z_repR ?zl1 ?zl2 ?_); (case zl1 => omega); (case zl2 => omega)))
local macro_rules | `(tactic| walk_at "z") => `(tactic| ((with_reducible refine' z_repL ?zl1 ?zl2 ?_); (case zl1 => omega); (case zl2 => omega)))
local macro_rules | `(tactic| walk_at "z") => `(tactic| ((with_reducible refine' z_lenLst ?zl1 ?_); (case zl1 => walk_at "up")))
local macro_rules | `(tactic| walk_at "z") => `(tactic| ((with_reducible refine' z_cat ?zl1 ?zl2 ?zl3 ?_); (case zl1 => walk_at "up"); (case zl2 => walk_at "up"); (case zl3 => (simp only [List.length_map, List.length_cons, List.length_nil, List.length_append, List.length_replicate]; omega)); intro p H' hp hs he))
local macro_rules | `(tactic| walk_at "z") => `(tactic| with_reducible refine z_sfl ?_)
local macro_rules | `(tactic| walk_at "z") => `(tactic| with_reducible refine z_lcES ?_)
local macro_rules | `(tactic| walk_at "z") => `(tactic| with_reducible refine z_lcMS ?_)
local macro_rules | `(tactic| walk_at "z") => `(tactic| with_reducible refine z_foES ?_)
local macro_rules | `(tactic| walk_at "z") => `(tactic| with_reducible refine z_fo3S ?_)
local macro_rules | `(tactic| walk_at "z") => `(tactic| with_reducible refine z_sta ?_)
local macro_rules | `(tactic| walk_at "z") => `(tactic| with_reducible refine z_sta1 ?_)
local macro_rules | `(tactic| walk_at "z") => `(tactic| with_reducible refine z_lcTS ?_)
local macro_rules | `(tactic| walk_at "z") => `(tactic| with_reducible refine z_foTS ?_)
local macro_rules | `(tactic| walk_at "z") => `(tactic| with_reducible refine z_revTS ?_)
local macro_rules | `(tactic| walk_at "z") => `(tactic| with_reducible refine z_max2 ?_)
local macro_rules | `(tactic| walk_at "z") => `(tactic| ((with_reducible refine' z_fldt ?zc1 ?zc2 ?zl1 ?zl2 ?_); (case zc1 => exact Lw.cl_Ratio (by assumption)); (case zc2 => exact Lw.na_Ratio_top (by assumption)); (case zl1 => exact rfl); (case zl2 => walk_at "up")))
local macro_rules | `(tactic| walk_at "z") => `(tactic| ((with_reducible refine' z_fldb ?zc1 ?zc2 ?zl1 ?zl2 ?_); (case zc1 => exact Lw.cl_Ratio (by assumption)); (case zc2 => exact Lw.na_Ratio_bottom (by assumption)); (case zl1 => exact rfl); (case zl2 => walk_at "up")))
local macro_rules | `(tactic| walk_at "z") => `(tactic| ((with_reducible refine' u_mtF ?zl1 ?_); (case zl1 => walk_at "up")))
local macro_rules | `(tactic| walk_at "z") => `(tactic| with_reducible refine z_oaI ?_)
local macro_rules | `(tactic| walk_at "z") => `(tactic| with_reducible refine z_osI ?_)
local macro_rules | `(tactic| walk_at "z") => `(tactic| with_reducible refine z_asg2S ?_)
local macro_rules | `(tactic| walk_at "z") => `(tactic| ((with_reducible refine' z_ixLst ?zl1 ?zl2 ?_); (case zl1 => walk_at "up"); (case zl2 => exact rfl)))
local macro_rules | `(tactic| walk_at "z") => `(tactic| ((with_reducible refine' u_draw ?zl1 ?zl2 ?zl3 ?zl4 ?zl5 ?_); (case zl1 => walk_at "up"); (case zl2 => omega); (case zl3 => omega); (case zl4 => omega); (case zl5 => omega); intro r r0 r1))
local macro_rules | `(tactic| walk_at "z") => `(tactic| ((with_reducible refine' u_cell ?zl1 ?zl2 ?_); (case zl1 => walk_at "up"); (case zl2 => omega); intro c))
local macro_rules | `(tactic| walk_at "z") => `(tactic| with_reducible refine z_eqB ?_)
local macro_rules | `(tactic| walk_at "z") => `(tactic| with_reducible refine z_isB ?_)
local macro_rules | `(tactic| walk_at "z") => `(tactic| with_reducible refine u_whole1 ?_)
local macro_rules | `(tactic| walk_at "z") => `(tactic| ((with_reducible refine' u_mtSC ?zl1 ?_); (case zl1 => walk_at "up")))
local macro_rules | `(tactic| walk_at "z") => `(tactic| with_reducible refine z_lcR2S ?_)
theorem same63e {H H1 H2 : Hp} (h : Same H1 H2) (e : Same H H1) : Same H H2 := e.trans h
local macro_rules | `(tactic| walk_at "sm") => `(tactic| first
  | assumption
  | exact fun _ _ h => h
  | (refine' same63e (by assumption) ?zsm; case zsm => walk_at "sm"))
local macro_rules | `(tactic| walk_at "up") => `(tactic| first
  | assumption
  | (with_reducible refine' IsR.mono (by assumption) ?zup; case zup => walk_at "up")
  | (with_reducible refine' Fr.mono (by assumption) ?zup; case zup => walk_at "up")
  | (with_reducible refine' FS.mono (by assumption) ?zup; case zup => walk_at "up")
  | (with_reducible refine' Sq2.mono (by assumption) ?zup; case zup => walk_at "up")
  | (with_reducible refine' Same.at (by assumption) ?zup; case zup => walk_at "up")
  | (with_reducible refine' IsPool.mono (by assumption) ?zup; case zup => walk_at "up")
  | (with_reducible refine' IsSC.mono (by assumption) ?zup; case zup => walk_at "up")
  | (with_reducible refine' QP.mono (by assumption) ?zup; case zup => walk_at "up")
  | (with_reducible refine' IsW.mono (by assumption) ?zup; case zup => walk_at "up")
  | (with_reducible refine' FB.mono (by assumption) ?zup; case zup => walk_at "up")
  | fail)
section
variable {P : Program} {w : World} {K : Frag} {mg : Str → Option Value} {base : Heap}
theorem ok_law_negative (L : Lw K mg) {fd : FuncData} (F : FunD K "_law_negative" "_law_negative" (defArgs s_law_negative) (defBody s_law_negative) (defScope s_law_negative) (df_law_negative.dvs K) (df_law_negative.kws K) (He.fAd K ("_law_negative", none)) fd) : FnOk P w K mg base (L2N.CX P w) 6 (He.fAd K ("_law_negative", none)) fd (["numbers", "given", "top", "low", "way"] : List Str) (sp5 (fs_neg K)) := by
  refine FunD.ok F sc_law_negative len5 (fun cdv A outer s H vs Q E hr h => ?_)
  obtain ⟨x, y, z, u, v, rfl, h⟩ := h
  refine ⟨_, (pss_cons (L2N.ps_try_as (i := 5) rfl rfl sc_law_negative.nd rfl rfl ⟨rfl, by decide, Or.inl L.g_Negative⟩ (L2N.takes_of rfl rfl rfl rfl)
    (fun W pn xe tk po => (pss_cons (ps_if (pt_cmpR op_eq (pv 4) pe_int (nomark _)) (pss_one (ps_expr (pe_c (c_six_of_shares (K := K) L) hr (by decide) tk (pa_cons (pv 0) (pa_cons (pv 1) pa_nil))))) pss_nil)
    (pss_cons (ps_if (pt_cmpR op_eq (pv 4) pe_int (nomark _)) (pss_one (ps_expr (pe_c (c_exchanged (K := K) L) hr (by decide) tk (pa_cons (pv 1) (pa_cons (pe_un o_neg pe_int) (pa_cons (pe_un o_neg pe_int) pa_nil)))))) pss_nil)
    (pss_one (ps_if (pt_cmpR op_eq (pv 4) pe_int (nomark _)) (pss_one (ps_expr (pe_c (c_exchanged (K := K) L) hr (by decide) tk (pa_cons (pv 1) (pa_cons pe_int (pa_cons pe_int pa_nil)))))) pss_nil)))))
    (fun a oe cls dd pn hz hf => (pss_cons (ps_if (PW.pt (pw_or (pt_val (pe_callB (call_isEx L.ec_Negative (L2N.Zn.zc hz) hf) (by rfl) L.f_isinstance (by decide +kernel) (pa_cons (pv 5) (pa_cons (pe_cls L.g_BadSize) pa_nil)))) (pw_or1 (pt_val (pe_callB (call_isEx L.ec_Negative (L2N.Zn.zc hz) hf) (by rfl) L.f_isinstance (by decide +kernel) (pa_cons (pv 5) (pa_cons (pe_cls L.g_OutOfBounds) pa_nil))))))) (pss_one (ps_ret pe_bl)) pss_nil)
    (pss_one (ps_ret (pe_and (pe_callB (call_isEx L.ec_Negative (L2N.Zn.zc hz) hf) (by rfl) L.f_isinstance (by decide +kernel) (pa_cons (pv 5) (pa_cons (pe_cls L.g_NoughtError) pa_nil))) (pe_one (pe_ch (ch_law_is (K := K) L) (room_suite hr _) (by decide) (hot_suite hz hf) (pa_cons (pe_xf L.xf_Negative L.na_Negative_ratio (L2N.Zn.zc hz) hf (pv 5)) (pa_cons (pv 2) (pa_cons (pv 3) pa_nil)))))))))))
    (pss_one (ps_ret pe_bl))), ?_⟩
  rw [show L2.start (["numbers", "given", "top", "low", "way", "e"] : List Str) [x, y, z, u, v] = [some x, some y, some z, some u, some v, none] from rfl]
  obtain ⟨gn, gs, xn, xs, N, T, wn, w, t, lo, way, k0, rfl, rfl, rfl, rfl, rfl, hn, hs, l3, n1, n2, hk0, tn, tj, e, bt, bl, hw, k⟩ := h
  obtain ⟨y, hy⟩ : ∃ y, xs[k0]? = some y := ⟨_, List.getElem?_eq_getElem hk0⟩
  obtain ⟨a, rfl, fa⟩ := hs.fs.2 _ _ hy
  rcases hw with rfl | rfl | rfl
  · try dsimp only [List.set]
    walk_at "zz"
    refine z_dT rfl ?_
    try dsimp only [List.set]
    walk_at "zz"
    refine ⟨_, _, rfl, gn, gs, xn, xs, N, T, wn, w, rfl, rfl, hn.fs, hs.fs, hn.w0, hs.w0, fun k => (hn.bT k).up (by decide), hn.bw, hs.bT, hs.bw.up (by decide), fun z => absurd l3 z, fun _ z => absurd ⟨n1, n2⟩ z, fun _ _ _ j x hx hj hj2 d H' s hd => ?_, fun _ _ _ nn => absurd tn (by have := nn k0 hk0; omega)⟩
    have ej : j = k0 := by
      rcases Nat.lt_trichotomy j k0 with z | z | z
      · have := tj j z
        omega
      · exact z
      · have := hj2 k0 z
        omega
    subst ej
    rw [hy] at hx
    cases hx
    refine z_as L.xm_Negative_Negative (fun a ha => ?_)
    try dsimp only [List.set]
    walk_at "zz"
    refine z_isX hd L.kt_Negative_BadSize ?_
    try dsimp only [List.set]
    walk_at "zz"
    refine z_isX hd L.kt_Negative_OutOfBounds ?_
    try dsimp only [List.set]
    walk_at "zz"
    refine z_isX hd L.kt_Negative_NoughtError ?_
    try dsimp only [List.set]
    walk_at "zz"
    refine z_xf hd lkA ?_
    try dsimp only [List.set]
    walk_at "zz"
    exact u_is ((fa.mono s)) hs.w0 ((hs.bT j).up (by decide)) (hs.bw.up (by decide)) (bt.up (by decide)) (bl.up (by decide)) e (k _ s)
  · try dsimp only [List.set]
    walk_at "zz"
    refine z_dF (by decide) ?_
    try dsimp only [List.set]
    walk_at "zz"
    refine z_dT rfl ?_
    try dsimp only [List.set]
    walk_at "zz"
    refine ⟨_, _, _, rfl, gs, xs, T, w, _, _, rfl, rfl, rfl, hs.fs, hs.w0, hs.bT, hs.bw.up (by decide), fun z => absurd ⟨n1, n2⟩ z, fun _ _ j x hx hj hj2 d H' s hd => ?_, fun _ _ nn => absurd tn (by have := nn k0 hk0; omega)⟩
    have ej : j = k0 := by
      rcases Nat.lt_trichotomy j k0 with z | z | z
      · have := tj j z
        omega
      · exact z
      · have := hj2 k0 z
        omega
    subst ej
    rw [hy] at hx
    cases hx
    refine z_as L.xm_Negative_Negative (fun a ha => ?_)
    try dsimp only [List.set]
    walk_at "zz"
    refine z_isX hd L.kt_Negative_BadSize ?_
    try dsimp only [List.set]
    walk_at "zz"
    refine z_isX hd L.kt_Negative_OutOfBounds ?_
    try dsimp only [List.set]
    walk_at "zz"
    refine z_isX hd L.kt_Negative_NoughtError ?_
    try dsimp only [List.set]
    walk_at "zz"
    refine z_xf hd lkA ?_
    try dsimp only [List.set]
    walk_at "zz"
    exact u_is ((fa.mono s)) hs.w0 ((hs.bT j).up (by decide)) (hs.bw.up (by decide)) (bt.up (by decide)) (bl.up (by decide)) e (k _ s)
  · try dsimp only [List.set]
    walk_at "zz"
    refine z_dF (by decide) ?_
    try dsimp only [List.set]
    walk_at "zz"
    refine z_dF (by decide) ?_
    try dsimp only [List.set]
    walk_at "zz"
    refine z_dT rfl ?_
    try dsimp only [List.set]
    walk_at "zz"
    refine ⟨_, _, _, rfl, gs, xs, T, w, _, _, rfl, rfl, rfl, hs.fs, hs.w0, hs.bT, hs.bw.up (by decide), fun z => absurd ⟨n1, n2⟩ z, fun _ _ j x hx hj hj2 d H' s hd => ?_, fun _ _ nn => absurd tn (by have := nn k0 hk0; omega)⟩
    have ej : j = k0 := by
      rcases Nat.lt_trichotomy j k0 with z | z | z
      · have := tj j z
        omega
      · exact z
      · have := hj2 k0 z
        omega
    subst ej
    rw [hy] at hx
    cases hx
    refine z_as L.xm_Negative_Negative (fun a ha => ?_)
    try dsimp only [List.set]
    walk_at "zz"
    refine z_isX hd L.kt_Negative_BadSize ?_
    try dsimp only [List.set]
    walk_at "zz"
    refine z_isX hd L.kt_Negative_OutOfBounds ?_
    try dsimp only [List.set]
    walk_at "zz"
    refine z_isX hd L.kt_Negative_NoughtError ?_
    try dsimp only [List.set]
    walk_at "zz"
    refine z_xf hd lkA ?_
    try dsimp only [List.set]
    walk_at "zz"
    exact u_is ((fa.mono s)) hs.w0 ((hs.bT j).up (by decide)) (hs.bw.up (by decide)) (bt.up (by decide)) (bl.up (by decide)) e (k _ s)
theorem c_law_negative (L : Lw K mg) : Cal P w K mg base 6 "_law_negative" (sp5 (fs_neg K)) [] := by
  obtain ⟨fd, F⟩ := L.d_law_negative
  exact ⟨⟨_, fd, ["numbers", "given", "top", "low", "way"], [], ok_law_negative L F, L.g_law_negative, F.kp, F.bindsN (fun _ _ _ _ _ _ us hl => match us, hl with | [_, _, _, _, _], _ => rfl), .nil⟩⟩
theorem ok_law_size (L : Lw K mg) {fd : FuncData} (F : FunD K "_law_size" "_law_size" (defArgs s_law_size) (defBody s_law_size) (defScope s_law_size) (df_law_size.dvs K) (df_law_size.kws K) (He.fAd K ("_law_size", none)) fd) : FnOk P w K mg base (L2N.CX P w) 6 (He.fAd K ("_law_size", none)) fd (["numbers", "given", "size", "way"] : List Str) (sp4 (fs_lsize K)) := by
  refine FunD.ok F sc_law_size len4 (fun cdv A outer s H vs Q E hr h => ?_)
  obtain ⟨x, y, z, v, rfl, h⟩ := h
  refine ⟨_, (pss_cons (L2N.ps_try_as (i := 4) rfl rfl sc_law_size.nd rfl rfl ⟨rfl, by decide, Or.inl L.g_BadSize⟩ (L2N.takes_of rfl rfl rfl rfl)
    (fun W pn xe tk po => (pss_one (ps_if (pt_cmpR op_eq (pv 3) pe_int (nomark _)) (pss_one (ps_expr (pe_c (c_six_of_shares (K := K) L) hr (by decide) tk (pa_cons (pv 0) (pa_cons (pv 1) pa_nil))))) (pss_one (ps_expr (pe_c (c_exchanged (K := K) L) hr (by decide) tk (pa_cons (pv 1) (pa_cons pe_int (pa_cons pe_int pa_nil)))))))))
    (fun a oe cls dd pn hz hf => (pss_cons (ps_if (PW.pt (pw_or (pt_val (pe_callB (call_isEx L.ec_BadSize (L2N.Zn.zc hz) hf) (by rfl) L.f_isinstance (by decide +kernel) (pa_cons (pv 4) (pa_cons (pe_cls L.g_Negative) pa_nil)))) (pw_or1 (pt_val (pe_callB (call_isEx L.ec_BadSize (L2N.Zn.zc hz) hf) (by rfl) L.f_isinstance (by decide +kernel) (pa_cons (pv 4) (pa_cons (pe_cls L.g_OutOfBounds) pa_nil))))))) (pss_one (ps_ret pe_bl)) pss_nil)
    (pss_one (ps_ret (pe_and (pe_callB (call_isEx L.ec_BadSize (L2N.Zn.zc hz) hf) (by rfl) L.f_isinstance (by decide +kernel) (pa_cons (pv 4) (pa_cons (pe_cls L.g_NoughtError) pa_nil))) (pe_and (pe_ch (ch_law_whole (K := K) L) (room_suite hr _) (by decide) (hot_suite hz hf) (pa_cons (pe_xf L.xf_BadSize L.na_BadSize_size (L2N.Zn.zc hz) hf (pv 4)) pa_nil)) (pe_one (pe_cmpR op_eq (pe_xf L.xf_BadSize L.na_BadSize_size (L2N.Zn.zc hz) hf (pv 4)) (pv 2) (nomark _))))))))))
    (pss_one (ps_ret pe_bl))), ?_⟩
  rw [show L2.start (["numbers", "given", "size", "way", "e"] : List Str) [x, y, z, v] = [some x, some y, some z, some v, none] from rfl]
  obtain ⟨gn, gs, xn, xs, N, T, wn, w, sz, way, rfl, rfl, rfl, rfl, hn, hs, c, k⟩ := h
  try dsimp only [List.set]
  walk_at "zz"
  refine z_d2 (fun cw => ?_) (fun cw => ?_)
  · try dsimp only [List.set]
    walk_at "zz"
    refine ⟨_, _, rfl, gn, gs, xn, xs, N, T, wn, w, rfl, rfl, hn.fs, hs.fs, hn.w0, hs.w0, fun k => (hn.bT k).up (by decide), hn.bw, hs.bT, hs.bw.up (by decide), fun z d H' s hd => ?_, fun z z2 d H' s hd => ?_, fun z z1 z2 => absurd ⟨z1, z2⟩ (c.elim (fun q => absurd z q.2.1) (fun q => q.2.1)), fun z z1 z2 => absurd ⟨z1, z2⟩ (c.elim (fun q => absurd z q.2.1) (fun q => q.2.1))⟩
    · have e : sz = xn.length := c.elim (fun q => q.2.2) (fun q => absurd q.1 z)
      refine z_as L.xm_BadSize_BadSize (fun a ha => ?_)
      try dsimp only [List.set]
      walk_at "zz"
      refine z_isX hd L.kt_BadSize_Negative ?_
      try dsimp only [List.set]
      walk_at "zz"
      refine z_isX hd L.kt_BadSize_OutOfBounds ?_
      try dsimp only [List.set]
      walk_at "zz"
      refine z_isX hd L.kt_BadSize_NoughtError ?_
      try dsimp only [List.set]
      walk_at "zz"
      refine z_xf hd lkA ?_
      try dsimp only [List.set]
      walk_at "zz"
      refine z_xf hd lkA ?_
      try dsimp only [List.set]
      walk_at "zz"
      rw [decide_eq_true e.symm]
      exact k _ s
    · have e : sz = xs.length := c.elim (fun q => absurd z q.2.1) (fun q => q.2.2)
      refine z_as L.xm_BadSize_BadSize (fun a ha => ?_)
      try dsimp only [List.set]
      walk_at "zz"
      refine z_isX hd L.kt_BadSize_Negative ?_
      try dsimp only [List.set]
      walk_at "zz"
      refine z_isX hd L.kt_BadSize_OutOfBounds ?_
      try dsimp only [List.set]
      walk_at "zz"
      refine z_isX hd L.kt_BadSize_NoughtError ?_
      try dsimp only [List.set]
      walk_at "zz"
      refine z_xf hd lkA ?_
      try dsimp only [List.set]
      walk_at "zz"
      refine z_xf hd lkA ?_
      try dsimp only [List.set]
      walk_at "zz"
      rw [decide_eq_true e.symm]
      exact k _ s
  · have c : xn.length = 3 ∧ ¬ (1 ≤ xs.length ∧ xs.length ≤ 200) ∧ sz = xs.length := c.elim (fun q => absurd q.1 cw) id
    try dsimp only [List.set]
    walk_at "zz"
    refine ⟨_, _, _, rfl, gs, xs, T, w, _, _, rfl, rfl, rfl, hs.fs, hs.w0, hs.bT, hs.bw.up (by decide), fun z d H' s hd => ?_, fun z1 z2 => absurd ⟨z1, z2⟩ c.2.1, fun z1 z2 => absurd ⟨z1, z2⟩ c.2.1⟩
    have e : sz = xs.length := c.2.2
    refine z_as L.xm_BadSize_BadSize (fun a ha => ?_)
    try dsimp only [List.set]
    walk_at "zz"
    refine z_isX hd L.kt_BadSize_Negative ?_
    try dsimp only [List.set]
    walk_at "zz"
    refine z_isX hd L.kt_BadSize_OutOfBounds ?_
    try dsimp only [List.set]
    walk_at "zz"
    refine z_isX hd L.kt_BadSize_NoughtError ?_
    try dsimp only [List.set]
    walk_at "zz"
    refine z_xf hd lkA ?_
    try dsimp only [List.set]
    walk_at "zz"
    refine z_xf hd lkA ?_
    try dsimp only [List.set]
    walk_at "zz"
    rw [decide_eq_true e.symm]
    exact k _ s
theorem c_law_size (L : Lw K mg) : Cal P w K mg base 6 "_law_size" (sp4 (fs_lsize K)) [] := by
  obtain ⟨fd, F⟩ := L.d_law_size
  exact ⟨⟨_, fd, ["numbers", "given", "size", "way"], [], ok_law_size L F, L.g_law_size, F.kp, F.bindsN (fun _ _ _ _ _ _ us hl => match us, hl with | [_, _, _, _], _ => rfl), .nil⟩⟩
theorem ok_law_place (L : Lw K mg) {fd : FuncData} (F : FunD K "_law_place" "_law_place" (defArgs s_law_place) (defBody s_law_place) (defScope s_law_place) (df_law_place.dvs K) (df_law_place.kws K) (He.fAd K ("_law_place", none)) fd) : FnOk P w K mg base (L2N.CX P w) 6 (He.fAd K ("_law_place", none)) fd (["given", "i", "j", "value"] : List Str) (sp4 (fs_place K)) := by
  refine FunD.ok F sc_law_place len4 (fun cdv A outer s H vs Q E hr h => ?_)
  obtain ⟨x, y, z, v, rfl, h⟩ := h
  refine ⟨_, (pss_cons (L2N.ps_try_as (i := 4) rfl rfl sc_law_place.nd rfl rfl ⟨rfl, by decide, Or.inl L.g_OutOfBounds⟩ (L2N.takes_of rfl rfl rfl rfl)
    (fun W pn xe tk po => (pss_one (ps_expr (pe_c (c_exchanged (K := K) L) hr (by decide) tk (pa_cons (pv 0) (pa_cons (pv 1) (pa_cons (pv 2) pa_nil)))))))
    (fun a oe cls dd pn hz hf => (pss_cons (ps_if (PW.pt (pw_or (pt_val (pe_callB (call_isEx L.ec_OutOfBounds (L2N.Zn.zc hz) hf) (by rfl) L.f_isinstance (by decide +kernel) (pa_cons (pv 4) (pa_cons (pe_cls L.g_Negative) pa_nil)))) (pw_or1 (pt_val (pe_callB (call_isEx L.ec_OutOfBounds (L2N.Zn.zc hz) hf) (by rfl) L.f_isinstance (by decide +kernel) (pa_cons (pv 4) (pa_cons (pe_cls L.g_BadSize) pa_nil))))))) (pss_one (ps_ret pe_bl)) pss_nil)
    (pss_one (ps_ret (pe_and (pe_callB (call_isEx L.ec_OutOfBounds (L2N.Zn.zc hz) hf) (by rfl) L.f_isinstance (by decide +kernel) (pa_cons (pv 4) (pa_cons (pe_cls L.g_NoughtError) pa_nil))) (pe_and (pe_ch (ch_law_whole (K := K) L) (room_suite hr _) (by decide) (hot_suite hz hf) (pa_cons (pe_xf L.xf_OutOfBounds L.na_OutOfBounds_value (L2N.Zn.zc hz) hf (pv 4)) pa_nil)) (pe_one (pe_cmpR op_eq (pe_xf L.xf_OutOfBounds L.na_OutOfBounds_value (L2N.Zn.zc hz) hf (pv 4)) (pv 3) (nomark _))))))))))
    (pss_one (ps_ret pe_bl))), ?_⟩
  rw [show L2.start (["given", "i", "j", "value", "e"] : List Str) [x, y, z, v] = [some x, some y, some z, some v, none] from rfl]
  obtain ⟨g, xs, T, w, i, j, val, rfl, rfl, rfl, rfl, hs, n1, n2, nn, c, k⟩ := h
  try dsimp only [List.set]
  walk_at "zz"
  refine ⟨_, _, _, rfl, g, xs, T, w, i, j, rfl, rfl, rfl, hs.fs, hs.w0, hs.bT, hs.bw.up (by decide), fun z => absurd ⟨n1, n2⟩ z, fun _ _ j x hx hj _ => absurd hj (by have := nn j (List.getElem?_eq_some_iff.mp hx).1; omega), fun _ _ _ => ⟨fun z d H' s hd => ?_, fun z1 z2 z d H' s hd => ?_, fun z1 z2 z3 z4 z5 => absurd z5 (c.elim (fun q => absurd ⟨z1, z2⟩ q.1) (fun q => fun z6 => q.2.2.1 ⟨z3, z4, z6⟩))⟩⟩
  · have e : val = i := c.elim (fun q => q.2) (fun q => absurd ⟨q.1, q.2.1⟩ z)
    refine z_as L.xm_OutOfBounds_OutOfBounds (fun a ha => ?_)
    try dsimp only [List.set]
    walk_at "zz"
    refine z_isX hd L.kt_OutOfBounds_Negative ?_
    try dsimp only [List.set]
    walk_at "zz"
    refine z_isX hd L.kt_OutOfBounds_BadSize ?_
    try dsimp only [List.set]
    walk_at "zz"
    refine z_isX hd L.kt_OutOfBounds_NoughtError ?_
    try dsimp only [List.set]
    walk_at "zz"
    refine z_xf hd lkA ?_
    try dsimp only [List.set]
    walk_at "zz"
    refine z_xf hd lkA ?_
    try dsimp only [List.set]
    walk_at "zz"
    rw [decide_eq_true e.symm]
    exact k _ s
  · have e : val = j := c.elim (fun q => absurd ⟨z1, z2⟩ q.1) (fun q => q.2.2.2)
    refine z_as L.xm_OutOfBounds_OutOfBounds (fun a ha => ?_)
    try dsimp only [List.set]
    walk_at "zz"
    refine z_isX hd L.kt_OutOfBounds_Negative ?_
    try dsimp only [List.set]
    walk_at "zz"
    refine z_isX hd L.kt_OutOfBounds_BadSize ?_
    try dsimp only [List.set]
    walk_at "zz"
    refine z_isX hd L.kt_OutOfBounds_NoughtError ?_
    try dsimp only [List.set]
    walk_at "zz"
    refine z_xf hd lkA ?_
    try dsimp only [List.set]
    walk_at "zz"
    refine z_xf hd lkA ?_
    try dsimp only [List.set]
    walk_at "zz"
    rw [decide_eq_true e.symm]
    exact k _ s
theorem c_law_place (L : Lw K mg) : Cal P w K mg base 6 "_law_place" (sp4 (fs_place K)) [] := by
  obtain ⟨fd, F⟩ := L.d_law_place
  exact ⟨⟨_, fd, ["given", "i", "j", "value"], [], ok_law_place L F, L.g_law_place, F.kp, F.bindsN (fun _ _ _ _ _ _ us hl => match us, hl with | [_, _, _, _], _ => rfl), .nil⟩⟩
theorem ok_law_places (L : Lw K mg) {fd : FuncData} (F : FunD K "_law_places" "_law_places" (defArgs s_law_places) (defBody s_law_places) (defScope s_law_places) (df_law_places.dvs K) (df_law_places.kws K) (He.fAd K ("_law_places", none)) fd) : FnOk P w K mg base (L2N.CX P w) 7 (He.fAd K ("_law_places", none)) fd (["given", "i", "j"] : List Str) (sp3 (fs_places K)) := by
  refine FunD.ok F sc_law_places len3 (fun cdv A outer s H vs Q E hr h => ?_)
  obtain ⟨x, y, z, rfl, h⟩ := h
  refine ⟨_, (pss_cons (ps_set (i := 3) sc_law_places.nd rfl (by first | exact Or.inl rfl | exact Or.inr rfl) (pe_callB (callK rLen1 (K := K) rfl o_len) (by rfl) L.f_len (by decide +kernel) (pa_cons (pv 0) pa_nil)))
    (pss_cons (ps_for (passes_of rfl) rfl (pi_listK (K := K) rfl (pe_lst (pa_cons (pe_un o_neg pe_int) (pa_cons (pv 3) (pa_cons (pe_op o_cat (pv 3) pe_int) (pa_cons (pe_op o_sub (pe_un o_neg pe_int) (pv 3)) pa_nil)))))) (pg_name (i := 4) sc_law_places.nd rfl (by first | exact Or.inl rfl | exact Or.inr rfl)) (pss_cons (ps_if (pt_not (pt_val (pe_c (c_law_place (K := K) L) hr (by decide) (L2N.takes_of rfl rfl rfl rfl) (pa_cons (pe_callTy (callK rList1 (K := K) rfl o_list1) (by rfl) L.f_list (by decide +kernel) (pa_cons (pv 0) pa_nil)) (pa_cons (pv 4) (pa_cons (pv 2) (pa_cons (pv 4) pa_nil))))))) (pss_one (ps_ret pe_bl)) pss_nil)
    (pss_one (ps_if (pt_not (pt_val (pe_c (c_law_place (K := K) L) hr (by decide) (L2N.takes_of rfl rfl rfl rfl) (pa_cons (pe_callTy (callK rList1 (K := K) rfl o_list1) (by rfl) L.f_list (by decide +kernel) (pa_cons (pv 0) pa_nil)) (pa_cons (pv 4) (pa_cons (pe_op o_cat (pv 4) pe_int) (pa_cons (pv 4) pa_nil))))))) (pss_one (ps_ret pe_bl)) pss_nil))))
    (pss_cons (ps_for (passes_of rfl) rfl (pi_listK (K := K) rfl (pe_lst (pa_cons (pe_un o_neg pe_int) (pa_cons (pv 3) (pa_cons (pe_un o_neg (pv 3)) (pa_cons (pe_op o_cat (pv 3) pe_int) (pa_cons (pv 1) pa_nil))))))) (pg_name (i := 4) sc_law_places.nd rfl (by first | exact Or.inl rfl | exact Or.inr rfl)) (pss_one (ps_if (pt_not (pt_val (pe_c (c_law_place (K := K) L) hr (by decide) (L2N.takes_of rfl rfl rfl rfl) (pa_cons (pe_callTy (callK rList1 (K := K) rfl o_list1) (by rfl) L.f_list (by decide +kernel) (pa_cons (pv 0) pa_nil)) (pa_cons (pv 1) (pa_cons (pv 4) (pa_cons (pv 4) pa_nil))))))) (pss_one (ps_ret pe_bl)) pss_nil)))
    (pss_cons (ps_set (i := 5) sc_law_places.nd rfl (by first | exact Or.inl rfl | exact Or.inr rfl) (pe_lst (pa_cons (pe_mk (c1_RatioD_initD (K := K) L) hr (by decide) (L2N.takes_of rfl rfl rfl rfl) (pa_cons pe_int pa_nil)) pa_nil)))
    (pss_one (ps_ret (pe_and (pe_c (c_law_place (K := K) L) hr (by decide) (L2N.takes_of rfl rfl rfl rfl) (pa_cons (pv 5) (pa_cons pe_int (pa_cons pe_int (pa_cons pe_int pa_nil))))) (pe_and (pe_c (c_law_place (K := K) L) hr (by decide) (L2N.takes_of rfl rfl rfl rfl) (pa_cons (pv 5) (pa_cons pe_int (pa_cons pe_int (pa_cons pe_int pa_nil))))) (pe_one (pe_c (c_law_place (K := K) L) hr (by decide) (L2N.takes_of rfl rfl rfl rfl) (pa_cons (pv 5) (pa_cons pe_int (pa_cons pe_int (pa_cons pe_int pa_nil)))))))))))))), ?_⟩
  rw [show L2.start (["given", "i", "j", "m", "wrong", "one"] : List Str) [x, y, z] = [some x, some y, some z, none, none, none] from rfl]
  obtain ⟨g, xs, T, w, i, j, rfl, rfl, rfl, hs, n2, n200, nn, i0, i1, j0, j1, k⟩ := h
  try dsimp only [List.set]
  walk_at "zz"
  refine z_lenS hs.fs.1 ?_
  try dsimp only [List.set]
  walk_at "zz"
  rename_i W HW hW sW eW
  refine z_foV eW (fun c σ' H' => ∃ x4 : Option V, σ' = [some (.ref g), some (.int i), some (.int j), some (.int (xs.length : Int)), x4, none] ∧ Same HW H') ⟨_, rfl, fun _ _ h => h⟩ (fun c σ' H' z => by obtain ⟨_, _, s⟩ := z; exact s _ _ eW) ?_ ?_
  · rintro c x σ' H1 hx ⟨x4, rfl, s1⟩
    obtain ⟨wr, rfl, hwr⟩ : ∃ wr : Int, x = .int wr ∧ ¬ (0 ≤ wr ∧ wr < xs.length) := by
      rcases four_at hx with rfl | rfl | rfl | rfl
      · exact ⟨_, rfl, by omega⟩
      · exact ⟨_, rfl, by omega⟩
      · exact ⟨_, rfl, by omega⟩
      · exact ⟨_, rfl, by omega⟩
    have h1 := hs.mono (sW.trans s1)
    try dsimp only [List.set]
    walk_at "zz"
    refine z_listS h1.fs.1 (fun p2 H2 hp2 s2 e2 => ?_)
    try dsimp only [List.set]
    walk_at "zz"
    refine u_place (h1.copy s2 e2) (by omega) n200 nn (.inl ⟨hwr, rfl⟩) (fun H3 s3 => ?_)
    have h3 := (h1.mono s2).mono s3
    try dsimp only [List.set]
    walk_at "zz"
    refine z_listS h3.fs.1 (fun p4 H4 hp4 s4 e4 => ?_)
    try dsimp only [List.set]
    walk_at "zz"
    refine u_place (h3.copy s4 e4) (by omega) n200 nn (.inl ⟨hwr, rfl⟩) (fun H5 s5 => ?_)
    try dsimp only [List.set]
    walk_at "zz"
    exact ⟨_, rfl, by walk_at "sm"⟩
  rintro σ' H1 ⟨x4, rfl, s1⟩
  try dsimp only [List.set]
  walk_at "zz"
  rename_i W2 HW2 hW2 sW2 eW2
  refine z_foV eW2 (fun c σ' H' => ∃ x4 : Option V, σ' = [some (.ref g), some (.int i), some (.int j), some (.int (xs.length : Int)), x4, none] ∧ Same HW2 H') ⟨_, rfl, fun _ _ h => h⟩ (fun c σ' H' z => by obtain ⟨_, _, s⟩ := z; exact s _ _ eW2) ?_ ?_
  · rintro c x σ' H2 hx ⟨x5, rfl, s2⟩
    obtain ⟨wr, rfl, hwr⟩ : ∃ wr : Int, x = .int wr ∧ ¬ (0 ≤ wr ∧ wr < xs.length ∧ wr ≠ i) := by
      rcases five_at hx with rfl | rfl | rfl | rfl | rfl
      · exact ⟨_, rfl, by omega⟩
      · exact ⟨_, rfl, by omega⟩
      · exact ⟨_, rfl, by omega⟩
      · exact ⟨_, rfl, by omega⟩
      · exact ⟨_, rfl, by omega⟩
    have h1 := hs.mono (((sW.trans s1).trans sW2).trans s2)
    try dsimp only [List.set]
    walk_at "zz"
    refine z_listS h1.fs.1 (fun p2 H3 hp2 s3 e2 => ?_)
    try dsimp only [List.set]
    walk_at "zz"
    refine u_place (h1.copy s3 e2) (by omega) n200 nn (.inr ⟨i0, i1, hwr, rfl⟩) (fun H4 s4 => ?_)
    try dsimp only [List.set]
    walk_at "zz"
    exact ⟨_, rfl, by walk_at "sm"⟩
  rintro σ' H2 ⟨x5, rfl, s2⟩
  try dsimp only [List.set]
  walk_at "zz"
  refine u_mkF1 (fun r H3 s3 fr => ?_)
  try dsimp only [List.set]
  walk_at "zz"
  rename_i O HO hO sO eO
  have hone : FB K HO O [.ref r] (fun _ => 2) 1 := ⟨⟨.inl eO, fun k x e => by
    have := List.mem_of_getElem? e
    obtain rfl : x = .ref r := by simpa using this
    exact ⟨r, rfl, fr.mono sO⟩⟩, by decide, fun _ => sm200 (by decide) (by decide) (by decide), sm200 (by decide) (by decide) (by decide)⟩
  refine u_place hone (Nat.le_of_ble_eq_true rfl) (Nat.le_of_ble_eq_true rfl) (fun k hk => by decide) (.inr ⟨by decide, by show (0 : Int) < 1; decide, fun z => absurd rfl z.2.2, rfl⟩) (fun H4 s4 => ?_)
  try dsimp only [List.set]
  walk_at "zz"
  refine u_place (hone.mono s4) (Nat.le_of_ble_eq_true rfl) (Nat.le_of_ble_eq_true rfl) (fun k hk => by decide) (.inl ⟨fun z => absurd z.2 (by show ¬ (1 : Int) < 1; decide), rfl⟩) (fun H5 s5 => ?_)
  try dsimp only [List.set]
  walk_at "zz"
  refine u_place ((hone.mono s4).mono s5) (Nat.le_of_ble_eq_true rfl) (Nat.le_of_ble_eq_true rfl) (fun k hk => by decide) (.inr ⟨by decide, by show (0 : Int) < 1; decide, fun z => absurd z.2.1 (by show ¬ (1 : Int) < 1; decide), rfl⟩) (fun H6 s6 => ?_)
  exact k H6 (by walk_at "sm")
theorem c_law_places (L : Lw K mg) : Cal P w K mg base 7 "_law_places" (sp3 (fs_places K)) [] := by
  obtain ⟨fd, F⟩ := L.d_law_places
  exact ⟨⟨_, fd, ["given", "i", "j"], [], ok_law_places L F, L.g_law_places, F.kp, F.bindsN (fun _ _ _ _ _ _ us hl => match us, hl with | [_, _, _], _ => rfl), .nil⟩⟩
theorem ok_law_refusals (L : Lw K mg) {fd : FuncData} (F : FunD K "_law_refusals" "_law_refusals" (defArgs s_law_refusals) (defBody s_law_refusals) (defScope s_law_refusals) (df_law_refusals.dvs K) (df_law_refusals.kws K) (He.fAd K ("_law_refusals", none)) fd) : FnOk P w K mg base (L2N.CX P w) 7 (He.fAd K ("_law_refusals", none)) fd (["tops", "low", "at", "behind", "amount"] : List Str) (sp5 (fs_refusals K)) := by
  refine FunD.ok F sc_law_refusals len5 (fun cdv A outer s H vs Q E hr h => ?_)
  obtain ⟨x, y, z, u, v, rfl, h⟩ := h
  refine ⟨_, (pss_cons (ps_set (i := 5) sc_law_refusals.nd rfl (by first | exact Or.inl rfl | exact Or.inr rfl) (pe_lst (pa_cons (pe_mk (c1_RatioD_initD (K := K) L) hr (by decide) (L2N.takes_of rfl rfl rfl rfl) (pa_cons pe_int pa_nil)) (pa_cons (pe_mk (c1_RatioD_initD (K := K) L) hr (by decide) (L2N.takes_of rfl rfl rfl rfl) (pa_cons pe_int pa_nil)) (pa_cons (pe_mk (c1_RatioD_initD (K := K) L) hr (by decide) (L2N.takes_of rfl rfl rfl rfl) (pa_cons pe_int pa_nil)) pa_nil)))))
    (pss_cons (ps_set (i := 6) sc_law_refusals.nd rfl (by first | exact Or.inl rfl | exact Or.inr rfl) (pe_c (c_law_shares (K := K) L) hr (by decide) (L2N.takes_of rfl rfl rfl rfl) (pa_cons (pv 0) (pa_cons (pv 1) pa_nil))))
    (pss_cons (ps_asg (pe_mk (c_RatioD_initD (K := K) L) hr (by decide) (L2N.takes_of rfl rfl rfl rfl) (pa_cons (pe_un o_neg pe_int) (pa_cons (pv 1) pa_nil))) (pg_sub (pv 6) (pv 3) set_list))
    (pss_cons (ps_asg (pe_mk (c_RatioD_initD (K := K) L) hr (by decide) (L2N.takes_of rfl rfl rfl rfl) (pa_cons (pe_un o_neg (pv 4)) (pa_cons (pv 1) pa_nil))) (pg_sub (pv 6) (pv 2) set_list))
    (pss_cons (ps_for (passes_of rfl) rfl (pi_range1 (by rfl) L.f_range (pa_cons pe_int pa_nil)) (pg_name (i := 7) sc_law_refusals.nd rfl (by first | exact Or.inl rfl | exact Or.inr rfl)) (pss_one (ps_if (pt_not (pt_val (pe_c (c_law_negative (K := K) L) hr (by decide) (L2N.takes_of rfl rfl rfl rfl) (pa_cons (pe_callTy (callK rList1 (K := K) rfl o_list1) (by rfl) L.f_list (by decide +kernel) (pa_cons (pv 5) pa_nil)) (pa_cons (pe_callTy (callK rList1 (K := K) rfl o_list1) (by rfl) L.f_list (by decide +kernel) (pa_cons (pv 6) pa_nil)) (pa_cons (pe_un o_neg (pv 4)) (pa_cons (pv 1) (pa_cons (pv 7) pa_nil)))))))) (pss_one (ps_ret pe_bl)) pss_nil)))
    (pss_cons (ps_set (i := 8) sc_law_refusals.nd rfl (by first | exact Or.inl rfl | exact Or.inr rfl) (pe_c (c_law_shares (K := K) L) hr (by decide) (L2N.takes_of rfl rfl rfl rfl) (pa_cons (pv 0) (pa_cons (pv 1) pa_nil))))
    (pss_cons (ps_for (passes_of rfl) rfl (pi_listK (K := K) rfl (pe_lst (pa_cons pe_int (pa_cons pe_int (pa_cons pe_int pa_nil))))) (pg_name (i := 9) sc_law_refusals.nd rfl (by first | exact Or.inl rfl | exact Or.inr rfl)) (pss_cons (ps_setLc (i := 10) (own := [("k", 11)]) (g := (gName 11)) (tt := tYes) rfl sc_law_refusals.nd rfl rfl (sw_true rfl rfl rfl (by decide +kernel)) (pi_range1 (by rfl) L.f_range (pa_cons (pv 9) pa_nil)) (blkOk_by (N := ["tops", "low", "at", "behind", "amount", "numbers", "bad", "way", "fine", "count", "some", "k", "given", "long"]) (sc := defScope s_law_refusals) (by decide +kernel)) (fun _ _ _ _ _ => pg_name (i := 11) sc_law_refusals.nd rfl (Or.inl rfl)) (fun _ _ _ _ _ => pts_nil) (fun _ _ _ _ _ => (pe_mk (c1_RatioD_initD (K := K) L) hr (by decide) takesF (pa_cons (pe_op o_cat (pv 11) pe_int) pa_nil))))
    (pss_one (ps_for (passes_of rfl) rfl (pi_listK (K := K) rfl (pe_lst (pa_cons (pv 8) (pa_cons (pv 6) (pa_cons (pe_lst pa_nil) pa_nil))))) (pg_name (i := 12) sc_law_refusals.nd rfl (by first | exact Or.inl rfl | exact Or.inr rfl)) (pss_one (ps_if (pt_not (pt_val (pe_c (c_law_size (K := K) L) hr (by decide) (L2N.takes_of rfl rfl rfl rfl) (pa_cons (pe_callTy (callK rList1 (K := K) rfl o_list1) (by rfl) L.f_list (by decide +kernel) (pa_cons (pv 10) pa_nil)) (pa_cons (pe_callTy (callK rList1 (K := K) rfl o_list1) (by rfl) L.f_list (by decide +kernel) (pa_cons (pv 12) pa_nil)) (pa_cons (pv 9) (pa_cons pe_int pa_nil))))))) (pss_one (ps_ret pe_bl)) pss_nil))))))
    (pss_cons (ps_set (i := 13) sc_law_refusals.nd rfl (by first | exact Or.inl rfl | exact Or.inr rfl) (pe_op o_cat (pe_op o_rep (pe_lst (pa_cons (pe_mk (c1_RatioD_initD (K := K) L) hr (by decide) (L2N.takes_of rfl rfl rfl rfl) (pa_cons pe_int pa_nil)) pa_nil)) pe_int) (pe_lst (pa_cons (pe_mk (c1_RatioD_initD (K := K) L) hr (by decide) (L2N.takes_of rfl rfl rfl rfl) (pa_cons (pe_un o_neg pe_int) pa_nil)) pa_nil))))
    (pss_cons (ps_for (passes_of rfl) rfl (pi_range1 (by rfl) L.f_range (pa_cons pe_int pa_nil)) (pg_name (i := 7) sc_law_refusals.nd rfl (by first | exact Or.inl rfl | exact Or.inr rfl)) (pss_cons (ps_if (pt_not (pt_val (pe_c (c_law_size (K := K) L) hr (by decide) (L2N.takes_of rfl rfl rfl rfl) (pa_cons (pe_callTy (callK rList1 (K := K) rfl o_list1) (by rfl) L.f_list (by decide +kernel) (pa_cons (pv 5) pa_nil)) (pa_cons (pe_lst pa_nil) (pa_cons pe_int (pa_cons (pv 7) pa_nil))))))) (pss_one (ps_ret pe_bl)) pss_nil)
    (pss_one (ps_if (pt_not (pt_val (pe_c (c_law_size (K := K) L) hr (by decide) (L2N.takes_of rfl rfl rfl rfl) (pa_cons (pe_callTy (callK rList1 (K := K) rfl o_list1) (by rfl) L.f_list (by decide +kernel) (pa_cons (pv 5) pa_nil)) (pa_cons (pv 13) (pa_cons pe_int (pa_cons (pv 7) pa_nil))))))) (pss_one (ps_ret pe_bl)) pss_nil))))
    (pss_one (ps_ret pe_bl))))))))))), ?_⟩
  rw [show L2.start (["tops", "low", "at", "behind", "amount", "numbers", "bad", "way", "fine", "count", "some", "k", "given", "long"] : List Str) [x, y, z, u, v] = [some x, some y, some z, some u, some v, none, none, none, none, none, none, none, none, none] from rfl]
  obtain ⟨p, ts, low, at', be, am, rfl, rfl, rfl, rfl, rfl, hp, n2, n200, nn, bt, l1, l6, a0, ab, bn, am1, am2, k⟩ := h
  have bl : Bits 10 low := sm200 (by omega) (by omega) (by decide)
  try dsimp only [List.set]
  walk_at "zz"
  refine u_mkF1 (fun r1 H1 s1 f1 => ?_)
  try dsimp only [List.set]
  walk_at "zz"
  refine u_mkF1 (fun r2 H2 s2 f2 => ?_)
  try dsimp only [List.set]
  walk_at "zz"
  refine u_mkF1 (fun r3 H3 s3 f3 => ?_)
  try dsimp only [List.set]
  walk_at "zz"
  rename_i N HN hN sN eN
  have s04 : Same H HN := ((s1.trans s2).trans s3).trans sN
  have fN : FB K HN N [.ref r1, .ref r2, .ref r3] (cf [1, 2, 3]) 1 := ⟨FS.three eN (((f1.mono s2).mono s3).mono sN) ((f2.mono s3).mono sN) (f3.mono sN), by decide, three_bits (sm200 (by decide) (by decide) (by decide)) (sm200 (by decide) (by decide) (by decide)) (sm200 (by decide) (by decide) (by decide)), sm200 (by decide) (by decide) (by decide)⟩
  refine ⟨_, _, rfl, p, ts, low, rfl, rfl, s04 _ _ hp, by omega, by omega, bl.up (by decide), fun B xs HB hB sB fB eB lB => ?_⟩
  try dsimp only [List.set]
  walk_at "zz"
  refine u_mkF (T := -99) (w := low) (by omega) (bl.up (by decide)) rfl (fun q1 H5 s5 g1 => ?_)
  have eB5 := s5 _ _ eB
  try dsimp only [List.set]
  walk_at "zz"
  refine z_setL (j := be.toNat) eB5 (by omega) (by omega) ?_
  have n5 : SameN H5 (upd H5 B (.lst (xs.set be.toNat (.ref q1)))) := SameN.put eB5
  have sB0 : Same HN (upd H5 B (.lst (xs.set be.toNat (.ref q1)))) := Same.put (sB.trans s5) hB
  have eB6 : (upd H5 B (.lst (xs.set be.toNat (.ref q1)))) B = some (.lst (xs.set be.toNat (.ref q1))) := upd_same
  generalize (upd H5 B (.lst (xs.set be.toNat (.ref q1)))) = H6 at *
  have g1 := g1.monoN n5
  try dsimp only [List.set]
  walk_at "zz"
  refine u_mkF (T := -am) (w := low) (by omega) (bl.up (by decide)) rfl (fun q2 H7 s7 g2 => ?_)
  have eB7 := s7 _ _ eB6
  try dsimp only [List.set]
  walk_at "zz"
  refine z_setL (j := at'.toNat) eB7 (by omega) (by rw [List.length_set]; omega) ?_
  have n7 : SameN H7 (upd H7 B (.lst ((xs.set be.toNat (.ref q1)).set at'.toNat (.ref q2)))) := SameN.put eB7
  have sB8 : Same HN (upd H7 B (.lst ((xs.set be.toNat (.ref q1)).set at'.toNat (.ref q2)))) := Same.put (sB0.trans s7) hB
  have eB8 : (upd H7 B (.lst ((xs.set be.toNat (.ref q1)).set at'.toNat (.ref q2)))) B = some (.lst ((xs.set be.toNat (.ref q1)).set at'.toNat (.ref q2))) := upd_same
  generalize (upd H7 B (.lst ((xs.set be.toNat (.ref q1)).set at'.toNat (.ref q2)))) = H8 at *
  have g1 := (g1.mono s7).monoN n7
  have g2 := g2.monoN n7
  have nB : SameN HB H8 := ((SameN.of s5).trans n5).trans ((SameN.of s7).trans n7)
  have fbad : FB K H8 B ((xs.set be.toNat (.ref q1)).set at'.toNat (.ref q2)) (fun k => if k = at'.toNat then -am else if k = be.toNat then -99 else cf ts k) low := by
    refine ⟨⟨.inl eB8, fun k x hx => ?_⟩, by omega, fun k => ?_, bl⟩
    · rcases set2_at (by omega) (by omega) hx with ⟨e, rfl⟩ | ⟨e1, e, rfl⟩ | ⟨e1, e2, hx⟩
      · refine ⟨_, rfl, ?_⟩
        try dsimp only
        rw [if_pos e]
        exact g2
      · refine ⟨_, rfl, ?_⟩
        try dsimp only
        rw [if_neg e1, if_pos e]
        exact g1
      · obtain ⟨a, rfl, f⟩ := fB.2 k x hx
        refine ⟨_, rfl, ?_⟩
        try dsimp only
        rw [if_neg e1, if_neg e2]
        exact f.monoN nB
    · split
      · exact sm200 (by omega) (by omega) (by decide)
      · split
        · exact sm200 (by decide) (by decide) (by decide)
        · exact (bt k).up (by decide)
  have lbad : ((xs.set be.toNat (.ref q1)).set at'.toNat (.ref q2)).length = ts.length := by rw [List.length_set, List.length_set]; exact lB
  generalize ((xs.set be.toNat (.ref q1)).set at'.toNat (.ref q2)) = bs at *
  have fN8 := fN.mono sB8
  have hp8 : H8 p = some (.lst (ts.map V.int)) := sB8 _ _ (s04 _ _ hp)
  have s08 : Same H H8 := s04.trans sB8
  clear eB7 eB6 eB5 eB n5 n7 sB0 g1 g2 nB fB
  try dsimp only [List.set]
  walk_at "zz"
  refine z_foR (by decide) (by decide) (fun j σ' H' => ∃ x7 : Option V, σ' = [some (.ref p), some (.int low), some (.int at'), some (.int be), some (.int am), some (.ref N), some (.ref B), x7, none, none, none, none, none, none] ∧ Same H8 H') ⟨_, rfl, fun _ _ h => h⟩ ?_ ?_
  · rintro j σ' H9 hj ⟨x7, rfl, s9⟩
    have hj : j < 3 := hj
    have fN9 := fN8.mono s9
    have fb9 := fbad.mono s9
    try dsimp only [List.set]
    walk_at "zz"
    refine z_listS fN9.fs.1 (fun p2 Ha hp2 sa e2 => ?_)
    try dsimp only [List.set]
    walk_at "zz"
    refine z_listS (fb9.mono sa).fs.1 (fun p3 Hb hp3 sb e3 => ?_)
    try dsimp only [List.set]
    walk_at "zz"
    refine ⟨_, _, _, _, _, rfl, p2, p3, _, bs, _, _, _, low, -am, low, j, at'.toNat, rfl, rfl, rfl, rfl, rfl, (fN9.copy sa e2).mono sb, (fb9.mono sa).copy sb e3, rfl, by omega, by omega, by omega, ?_, fun i hi => ?_, ?_, sm200 (by omega) (by omega) (by decide), bl.up (by decide), by omega, fun Hc sc => ?_⟩
    · try dsimp only
      rw [if_pos rfl]
      omega
    · try dsimp only
      rw [if_neg (by omega), if_neg (by omega)]
      exact nn i
    · try dsimp only
      rw [if_pos rfl]
    · try dsimp only [List.set]
      walk_at "zz"
      exact ⟨_, rfl, by walk_at "sm"⟩
  rintro σ' H9 ⟨x7, rfl, s9⟩
  try dsimp only [List.set]
  walk_at "zz"
  refine ⟨_, _, rfl, p, ts, low, rfl, rfl, s9 _ _ hp8, by omega, by omega, bl.up (by decide), fun F fs HF hF sF fF eF lF => ?_⟩
  have fine : FB K HF F fs (cf ts) low := ⟨fF, by omega, fun k => (bt k).up (by decide), bl⟩
  have s8F := s9.trans sF
  try dsimp only [List.set]
  walk_at "zz"
  rename_i CL HC hCL sCL eCL
  have s8C := s8F.trans sCL
  refine z_foV eCL (fun i σ' H' => ∃ x9 x10 x11 x12 : Option V, σ' = [some (.ref p), some (.int low), some (.int at'), some (.int be), some (.int am), some (.ref N), some (.ref B), x7, some (.ref F), x9, x10, x11, x12, none] ∧ Same HC H') ⟨_, _, _, _, rfl, fun _ _ h => h⟩ (fun i σ' H' z => by obtain ⟨_, _, _, _, _, s⟩ := z; exact s _ _ eCL) ?_ ?_
  · rintro i x σ' Hd hx ⟨x9, x10, x11, x12, rfl, sd⟩
    obtain ⟨cn, rfl, hcn⟩ : ∃ cn : Int, x = .int cn ∧ (cn = 0 ∨ cn = 2 ∨ cn = 4) := by
      rcases three_at hx with ⟨_, rfl⟩ | ⟨_, rfl⟩ | ⟨_, rfl⟩
      · exact ⟨_, rfl, .inl rfl⟩
      · exact ⟨_, rfl, .inr (.inl rfl)⟩
      · exact ⟨_, rfl, .inr (.inr rfl)⟩
    try dsimp only [List.set]
    walk_at "zz"
    refine z_lcRP (n := cn) (itF K (fun k => if k < 10 then (k : Int) + 1 else 0) 1) itF_mono (by omega) (by omega) (fun j He N2 hj se cc => ⟨rfl, ?_⟩) (fun S HS hS sS hlS => ?_)
    · try dsimp only [List.set]
      walk_at "zz"
      exact u_mkF1 (fun q Hf sf hq => cc _ _ sf ⟨q, rfl, by dsimp only; rw [if_pos (by omega)]; exact hq⟩)
    obtain ⟨ss, fS, eS, lS⟩ := FS.ls hlS
    have some' : FB K HS S ss (fun k => if k < 10 then (k : Int) + 1 else 0) 1 := ⟨fS, by decide, fun k => by
      try dsimp only
      split
      · exact sm200 (by omega) (by omega) (by decide)
      · exact Bits.zero, sm200 (by decide) (by decide) (by decide)⟩
    have l3 : ss.length ≠ 3 := by omega
    try dsimp only [List.set]
    walk_at "zz"
    rename_i E0 HE hE sE eE G HG hG sG eG
    have sSG : Same HS HG := sE.trans sG
    have s8S : Same H8 HS := (s8C.trans sd).trans sS
    have sFS : Same HF HS := (sCL.trans sd).trans sS
    have all : ∀ i x, ([V.ref F, V.ref B, V.ref E0] : List V)[i]? = some x → ∃ g xs T w, x = V.ref g ∧ FB K HG g xs T w := fun i x hx => by
      rcases three_at hx with ⟨_, rfl⟩ | ⟨_, rfl⟩ | ⟨_, rfl⟩
      · exact ⟨_, _, _, _, rfl, fine.mono (sFS.trans sSG)⟩
      · exact ⟨_, _, _, _, rfl, fbad.mono (s8S.trans sSG)⟩
      · exact ⟨_, [], fun _ => 0, 1, rfl, ⟨.inl (sG _ _ eE), fun k x e => by simp at e⟩, by decide, fun _ => Bits.zero, sm200 (by decide) (by decide) (by decide)⟩
    refine z_foV eG (fun j σ' H' => ∃ x12 : Option V, σ' = [some (.ref p), some (.int low), some (.int at'), some (.int be), some (.int am), some (.ref N), some (.ref B), x7, some (.ref F), some (.int cn), some (.ref S), x11, x12, none] ∧ Same HG H') ⟨_, rfl, fun _ _ h => h⟩ (fun j σ' H' z => by obtain ⟨_, _, s⟩ := z; exact s _ _ eG) ?_ ?_
    · rintro j y σ' Hh hy ⟨x13, rfl, sh⟩
      obtain ⟨g, gx, gT, gw, rfl, fg⟩ := all j y hy
      have fg := fg.mono sh
      have fs' := (some'.mono sSG).mono sh
      try dsimp only [List.set]
      walk_at "zz"
      refine z_listS fs'.fs.1 (fun p2 Ha hp2 sa e2 => ?_)
      try dsimp only [List.set]
      walk_at "zz"
      refine z_listS (fg.mono sa).fs.1 (fun p3 Hb hp3 sb e3 => ?_)
      try dsimp only [List.set]
      walk_at "zz"
      refine u_size ((fs'.copy sa e2).mono sb) ((fg.mono sa).copy sb e3) (.inl ⟨rfl, l3, by omega⟩) (fun Hc sc => ?_)
      try dsimp only [List.set]
      walk_at "zz"
      exact ⟨_, rfl, by walk_at "sm"⟩
    · rintro σ' Hh ⟨x13, rfl, sh⟩
      try dsimp only [List.set]
      walk_at "zz"
      exact ⟨_, _, _, _, rfl, ((sd.trans sS).trans sSG).trans sh⟩
  rintro σ' Hd ⟨x9, x10, x11, x12, rfl, sd⟩
  try dsimp only [List.set]
  walk_at "zz"
  refine u_mkF1 (fun q1 He se g1 => ?_)
  try dsimp only [List.set]
  walk_at "zz"
  rename_i A1 HA1 hA1 sA1 eA1
  refine z_rep1 (n := 200) eA1 (by decide) (by decide) (fun A2 HA2 hA2 sA2 eA2 => ?_)
  try dsimp only [List.set]
  walk_at "zz"
  refine u_mkF1 (fun q2 Hf sf g2 => ?_)
  try dsimp only [List.set]
  walk_at "zz"
  rename_i A3 HA3 hA3 sA3 eA3 A4 HA4 hA4 sA4 eA4
  have g1' : Fr K HA4 q1 1 1 := ((((g1.mono sA1).mono sA2).mono sf).mono sA3).mono sA4
  have g2' : Fr K HA4 q2 (-1) 1 := (g2.mono sA3).mono sA4
  have long : FB K HA4 A4 (List.replicate (200 : Int).toNat (V.ref q1) ++ [V.ref q2]) (fun k => if k < 200 then 1 else -1) 1 := by
    refine ⟨⟨.inl eA4, fun k x hx => ?_⟩, by decide, fun k => ?_, sm200 (by decide) (by decide) (by decide)⟩
    · rw [List.getElem?_append] at hx
      split at hx
      · rename_i c
        have c : k < 200 := by simpa using c
        have : x = .ref q1 := by
          have := List.mem_of_getElem? hx
          exact (List.mem_replicate.mp this).2
        subst this
        refine ⟨_, rfl, ?_⟩
        try dsimp only
        rw [if_pos c]
        exact g1'
      · rename_i c
        have c : ¬ k < 200 := by simpa using c
        have : x = .ref q2 := by
          have := List.mem_of_getElem? hx
          simpa using this
        subst this
        refine ⟨_, rfl, ?_⟩
        try dsimp only
        rw [if_neg c]
        exact g2'
    · try dsimp only
      split
      · exact sm200 (by decide) (by decide) (by decide)
      · exact sm200 (by decide) (by decide) (by decide)
  have ll : (List.replicate (200 : Int).toNat (V.ref q1) ++ [V.ref q2]).length = 201 := by simp
  generalize (List.replicate (200 : Int).toNat (V.ref q1) ++ [V.ref q2]) = lg at *
  have s84 : Same H8 HA4 := (s8C.trans sd).trans (((((se.trans sA1).trans sA2).trans sf).trans sA3).trans sA4)
  refine z_foR (by decide) (by decide) (fun j σ' H' => ∃ x7 : Option V, σ' = [some (.ref p), some (.int low), some (.int at'), some (.int be), some (.int am), some (.ref N), some (.ref B), x7, some (.ref F), x9, x10, x11, x12, some (.ref A4)] ∧ Same HA4 H') ⟨_, rfl, fun _ _ h => h⟩ ?_ ?_
  · rintro j σ' H9 hj ⟨x7, rfl, s9⟩
    have fN9 := (fN8.mono s84).mono s9
    have fl9 := long.mono s9
    try dsimp only [List.set]
    walk_at "zz"
    refine z_listS fN9.fs.1 (fun p2 Ha hp2 sa e2 => ?_)
    try dsimp only [List.set]
    walk_at "zz"
    rename_i E0 HE hE sE eE
    refine u_size ((fN9.copy sa e2).mono sE) (xs := []) (T := fun _ => 0) (w := 1) ⟨⟨.inl eE, fun k x e => by simp at e⟩, by decide, fun _ => Bits.zero, sm200 (by decide) (by decide) (by decide)⟩ (.inr ⟨rfl, fun z => absurd z.1 (by decide), rfl⟩) (fun Hb sb => ?_)
    have fNb := ((fN9.mono sa).mono sE).mono sb
    try dsimp only [List.set]
    walk_at "zz"
    refine z_listS fNb.fs.1 (fun p3 Hc hp3 sc e3 => ?_)
    try dsimp only [List.set]
    walk_at "zz"
    refine u_size (fNb.copy sc e3) ((((fl9.mono sa).mono sE).mono sb).mono sc) (.inr ⟨rfl, by omega, by omega⟩) (fun Hd sd' => ?_)
    try dsimp only [List.set]
    walk_at "zz"
    exact ⟨_, rfl, by walk_at "sm"⟩
  rintro σ' H9 ⟨x7, rfl, s9⟩
  try dsimp only [List.set]
  walk_at "zz"
  exact k H9 ((s08.trans s84).trans s9)
theorem c_law_refusals (L : Lw K mg) : Cal P w K mg base 7 "_law_refusals" (sp5 (fs_refusals K)) [] := by
  obtain ⟨fd, F⟩ := L.d_law_refusals
  exact ⟨⟨_, fd, ["tops", "low", "at", "behind", "amount"], [], ok_law_refusals L F, L.g_law_refusals, F.kp, F.bindsN (fun _ _ _ _ _ _ us hl => match us, hl with | [_, _, _, _, _], _ => rfl), .nil⟩⟩
end
end T
set_option maxHeartbeats 4000000
namespace T
open PySem PySem.Spec PyProof.Rows L2 Z
open S31 (cf)
open S30
abbrev F7 := V → V → V → V → V → V → V → Hp → VK → XK → Prop
def sp7 (f : F7) : Sp := fun vs H Q E => ∃ a b c d e g h, vs = [a, b, c, d, e, g, h] ∧ f a b c d e g h H Q E
theorem len7 {f : F7} : ∀ vs H Q E, sp7 f vs H Q E → vs.length = 7 := by rintro _ _ _ _ ⟨_, _, _, _, _, _, _, rfl, _⟩; rfl
theorem sm_one (G : Nat → Int) (j : Nat) (u : Int) : ∀ n, sm (fun k => if k = j then u else G k) n = sm G n + if j < n then u - G j else 0
  | 0 => by simp [sm]
  | n + 1 => by
    rw [sm, sm, sm_one G j u n]
    by_cases e : n = j
    · subst e
      rw [if_pos rfl, if_neg (Nat.lt_irrefl _), if_pos (Nat.lt_succ_self _)]
      omega
    · rw [if_neg e]
      by_cases c : j < n
      · rw [if_pos c, if_pos (by omega)]
        omega
      · rw [if_neg c, if_neg (by omega)]
        omega
theorem sm_two (G : Nat → Int) {i j n : Nat} (u v : Int) (hi : i < n) (hj : j < n) (ne : j ≠ i) : sm (fun k => if k = j then u else if k = i then v else G k) n = sm G n - G i - G j + u + v := by
  rw [sm_one (fun k => if k = i then v else G k) j u n, sm_one G i v n, if_pos hi, if_pos hj, if_neg ne]
  omega
theorem sm_mul (c : Int) (G : Nat → Int) : ∀ n, sm (fun k => c * G k) n = c * sm G n
  | 0 => by simp [sm]
  | n + 1 => by
    rw [sm, sm, sm_mul c G n]
    grind
theorem exch_le {N T : Nat → Int} {i j n : Nat} (hi : i < n) (hj : j < n) (ne : j ≠ i) (ti : 0 ≤ T i) (tj : 0 ≤ T j) : six N (halv T i j) n ≤ 8 * six N T n ∨ six N (movd T i j) n ≤ 8 * six N T n := by
  have q1 := sm_mul 2 T n
  have q2 := sm_mul 4 (fun k => T k * T k) n
  have q3 := sm_mul 8 (fun k => T k * T k * T k) n
  have h1 : sm (halv T i j) n = 2 * sm T n := by
    have := sm_two (fun k => 2 * T k) (T i + T j) (T i + T j) hi hj ne
    unfold halv
    rw [this, q1]
    omega
  have h2 : sm (fun k => halv T i j k * halv T i j k) n = 4 * sm (fun k => T k * T k) n - 4 * (T i * T i) - 4 * (T j * T j) + 2 * ((T i + T j) * (T i + T j)) := by
    have := sm_two (fun k => 4 * (T k * T k)) ((T i + T j) * (T i + T j)) ((T i + T j) * (T i + T j)) hi hj ne
    have e : (fun k => halv T i j k * halv T i j k) = fun k => if k = j then (T i + T j) * (T i + T j) else if k = i then (T i + T j) * (T i + T j) else 4 * (T k * T k) := by
      funext k
      unfold halv
      split
      · rfl
      · split
        · rfl
        · grind
    rw [e, this, q2]
    omega
  have h3 : sm (fun k => halv T i j k * halv T i j k * halv T i j k) n = 8 * sm (fun k => T k * T k * T k) n - 8 * (T i * T i * T i) - 8 * (T j * T j * T j) + 2 * ((T i + T j) * (T i + T j) * (T i + T j)) := by
    have := sm_two (fun k => 8 * (T k * T k * T k)) ((T i + T j) * (T i + T j) * (T i + T j)) ((T i + T j) * (T i + T j) * (T i + T j)) hi hj ne
    have e : (fun k => halv T i j k * halv T i j k * halv T i j k) = fun k => if k = j then (T i + T j) * (T i + T j) * (T i + T j) else if k = i then (T i + T j) * (T i + T j) * (T i + T j) else 8 * (T k * T k * T k) := by
      funext k
      unfold halv
      split
      · rfl
      · split
        · rfl
        · grind
    rw [e, this, q3]
    omega
  have m1 : sm (movd T i j) n = 2 * sm T n := by
    have := sm_two (fun k => 2 * T k) (2 * (T i + T j)) 0 hi hj ne
    unfold movd
    rw [this, q1]
    omega
  have m2 : sm (fun k => movd T i j k * movd T i j k) n = 4 * sm (fun k => T k * T k) n - 4 * (T i * T i) - 4 * (T j * T j) + 4 * ((T i + T j) * (T i + T j)) := by
    have := sm_two (fun k => 4 * (T k * T k)) (4 * ((T i + T j) * (T i + T j))) 0 hi hj ne
    have e : (fun k => movd T i j k * movd T i j k) = fun k => if k = j then 4 * ((T i + T j) * (T i + T j)) else if k = i then 0 else 4 * (T k * T k) := by
      funext k
      unfold movd
      split
      · grind
      · split
        · rfl
        · grind
    rw [e, this, q2]
    omega
  have m3 : sm (fun k => movd T i j k * movd T i j k * movd T i j k) n = 8 * sm (fun k => T k * T k * T k) n - 8 * (T i * T i * T i) - 8 * (T j * T j * T j) + 8 * ((T i + T j) * (T i + T j) * (T i + T j)) := by
    have := sm_two (fun k => 8 * (T k * T k * T k)) (8 * ((T i + T j) * (T i + T j) * (T i + T j))) 0 hi hj ne
    have e : (fun k => movd T i j k * movd T i j k * movd T i j k) = fun k => if k = j then 8 * ((T i + T j) * (T i + T j) * (T i + T j)) else if k = i then 0 else 8 * (T k * T k * T k) := by
      funext k
      unfold movd
      split
      · grind
      · split
        · rfl
        · grind
    rw [e, this, q3]
    omega
  unfold six
  rw [h1, h2, h3, m1, m2, m3]
  generalize sm T n = S1
  generalize sm (fun k => T k * T k) n = S2
  generalize sm (fun k => T k * T k * T k) n = S3
  generalize N 0 = a
  generalize N 1 = b
  generalize N 2 = c
  generalize T i = x at *
  generalize T j = y at *
  by_cases d : 0 ≤ 3 * a * (x + y) + 2 * b * S1
  · left
    have p : 0 ≤ (x - y) * (x - y) := by
      rcases Int.le_total 0 (x - y) with z | z
      · exact Int.mul_nonneg z z
      · exact Int.mul_nonneg_of_nonpos_of_nonpos z z
    have := Int.mul_nonneg p d
    grind
  · right
    have := Int.mul_nonneg (Int.mul_nonneg ti tj) (show 0 ≤ -(3 * a * (x + y) + 2 * b * S1) by omega)
    grind
theorem halv_nn {T : Nat → Int} {i j : Nat} (h : ∀ k, 0 ≤ T k) (k : Nat) : 0 ≤ halv T i j k := by
  have h1 := h i
  have h2 := h j
  have h3 := h k
  unfold halv
  split
  · omega
  · split <;> omega
theorem movd_nn {T : Nat → Int} {i j : Nat} (h : ∀ k, 0 ≤ T k) (k : Nat) : 0 ≤ movd T i j k := by
  have h1 := h i
  have h2 := h j
  have h3 := h k
  unfold movd
  split
  · omega
  · split <;> omega
theorem two_at {a b : V} {k : Nat} {x : V} (h : [a, b][k]? = some x) : (k = 0 ∧ x = a) ∨ (k = 1 ∧ x = b) := by
  match k, h with
  | 0, h => exact .inl ⟨rfl, (Option.some.inj h).symm⟩
  | 1, h => exact .inr ⟨rfl, (Option.some.inj h).symm⟩
theorem FS.ne_ints {K : Frag} {H : Hp} {g q : Addr} {xs : List V} {T : Nat → Int} {w : Int} {ts : List Int} (h : FS K H g xs T w) (hg : H g = some (.lst xs)) (n : 1 ≤ xs.length) (hq : H q = some (.lst (ts.map V.int))) : q ≠ g := fun e => by
  rw [e, hg] at hq
  have e2 : xs = ts.map V.int := by
    have := Option.some.inj hq
    injection this
  obtain ⟨a, ea, _⟩ := h.2 0 xs[0] (List.getElem?_eq_getElem (by omega))
  have : xs[0] ∈ ts.map V.int := e2 ▸ List.getElem_mem (by omega)
  obtain ⟨y, _, ey⟩ := List.mem_map.mp this
  rw [ea] at ey
  cases ey
def fs_step (K : Frag) : F7 := fun a b c d e u v H Q _ => ∃ (p gs q : Addr) (A B C ov low i j : Int) (xs : List V) (ts : List Int) (M : Nat), a = .ref p ∧ b = .int ov ∧ c = .ref gs ∧ d = .ref q ∧ e = .int low ∧ u = .int i ∧ v = .int j ∧ H p = some (.lst [.int A, .int B, .int C]) ∧ H q = some (.lst (ts.map V.int)) ∧ 1 ≤ ov ∧ ov ≤ 7 ∧ Bits 130 A ∧ Bits 130 B ∧ Bits 130 C ∧
  FS K H gs xs (cf ts) low ∧ H gs = some (.lst xs) ∧ xs.length = ts.length ∧ 2 ≤ xs.length ∧ xs.length ≤ 200 ∧ (∀ k, 0 ≤ cf ts k) ∧ (∀ k, Bits M (cf ts k)) ∧ M ≤ 36 ∧ 0 < low ∧ Bits 9 low ∧ 0 ≤ i ∧ i < xs.length ∧ 0 ≤ j ∧ j < xs.length ∧ j ≠ i ∧
  ∀ r l1 l2 H' ys ts', But gs H H' → H' r = some (.lst [.ref l1, .ref l2]) → FS K H' l1 ys (cf ts') (2 * low) → H' l1 = some (.lst ys) → H' l2 = some (.lst (ts'.map V.int)) → ys.length = ts'.length → ts'.length = ts.length → (∀ k, 0 ≤ cf ts' k) → (∀ k, Bits (M + 3) (cf ts' k)) → S63.six A B C ts' ≤ 8 * S63.six A B C ts → Q (.ref r) H'
theorem z_bmi {K : Frag} {i : Nat} {σ : L2.St} {H : Hp} {Q : VK} {l : Addr} {xs : List V} {t : TA} (h : H l = some (.lst xs)) (hs : σ[i]? = some (some (.ref l))) (q : t σ H fun vs H1 => rIndex K (.ref l) vs H1 Q) : tBM K "list" (rIndex K) (tVar i) t σ H Q := ⟨_, hs, .inl ⟨rfl, _, SqL.of h⟩, q⟩
/-! the readings' steps, as one word: walk_at "z" (one step), "zz" (as far as it goes), "up" (a fact carried here) -/
local macro_rules | `(tactic| walk_at "up") => `(tactic| first
  | assumption
  | (refine' IsR.mono (by assumption) ?zup; case zup => walk_at "up")
  | (refine' IsE.mono (by assumption) ?zup; case zup => walk_at "up")
  | (refine' Same.at (by assumption) ?zup; case zup => walk_at "up")
  | (refine' SqL.of ?zup; case zup => walk_at "up")
  | (refine' L2.Same.seq (by assumption) ?zup; case zup => walk_at "up"))
local macro_rules | `(tactic| walk_at "z") => `(tactic| first
  | ((with_reducible refine' z_var ?zvh ?_); (case zvh => exact rfl))
  | with_reducible refine z_c ?_
  | with_reducible refine z_cons ?_
  | with_reducible refine z_nil ?_
  | with_reducible refine z_op ?_
  | with_reducible refine z_nx ?_
  | with_reducible refine z_seq ?_
  | with_reducible refine z_asg ?_
  | with_reducible refine z_asgG ?_
  | with_reducible refine z_call ?_
  | with_reducible refine z_sq0 ?_
  | with_reducible refine z_sq1 ?_
  | with_reducible refine z_ifS ?_
  | with_reducible refine z_test ?_
  | with_reducible refine z_tb ?_
  | with_reducible refine z_bl ?_
  | with_reducible refine z_blI ?_
  | with_reducible refine z_ret ?_
  | with_reducible refine z_rt ?_
  | with_reducible refine z_T ?_
  | with_reducible refine z_F ?_
  | with_reducible refine z_add ?_
  | with_reducible refine z_sub ?_
  | with_reducible refine z_neg ?_
  | with_reducible refine z_un ?_
  | with_reducible refine z_eqI ?_
  | with_reducible refine z_neI ?_
  | with_reducible refine z_lt ?_
  | with_reducible refine z_le ?_
  | with_reducible refine z_gt ?_
  | with_reducible refine z_ge ?_
  | with_reducible refine z_not ?_
  | with_reducible refine z_and ?_
  | with_reducible refine z_or ?_
  | with_reducible refine z_andV ?_
  | with_reducible refine z_orV ?_
  | with_reducible refine z_notV ?_
  | with_reducible refine z_if ?_
  | with_reducible refine z_cb ?_
  | with_reducible refine z_int1 ?_
  | with_reducible refine z_intb ?_
  | with_reducible refine z_abs ?_
  | with_reducible refine z_gcd ?_
  | with_reducible refine z_isi_ii ?_
  | with_reducible refine z_isi_ib ?_
  | with_reducible refine z_next ?_
  | with_reducible refine z_drop ?_
  | with_reducible refine z_par ?_
  | with_reducible refine z_par2 ?_
  | with_reducible refine z_tupN ?_
  | with_reducible refine z_lstN ?_
  | ((with_reducible refine' z_nt ?zl1 ?_); (case zl1 => exact Nat.le_of_ble_eq_true rfl); intro p H' hp hs he)
  | ((with_reducible refine' z_gtup ?zl1 ?zl2 ?_); (case zl1 => walk_at "up"); (case zl2 => exact rfl))
  | with_reducible refine z_bk ?_
  | with_reducible refine z_ct ?_
  | with_reducible refine z_break ?_
  | with_reducible refine z_cont ?_
  | with_reducible refine z_retN ?_
  | with_reducible refine z_nn ?_
  | with_reducible refine z_mk ?_
  | with_reducible refine z_gn ?_
  | with_reducible refine z_gcons ?_
  | with_reducible refine z_gnil ?_
  | with_reducible refine z_mt ?_
  | with_reducible refine z_mko ?_
  | with_reducible refine z_for2 ?_
  | with_reducible refine z_ownI ?_
  | ((with_reducible refine' z_lenL ?zl1 ?_); (case zl1 => walk_at "up"))
  | ((with_reducible refine' z_ixT ?zl1 ?zl2 ?_); (case zl1 => walk_at "up"); (case zl2 => exact rfl))
  | ((with_reducible refine' z_mulL ?zl1 ?zl2 ?_); (case zl1 => omega); (case zl2 => omega))
  | ((with_reducible refine' z_mulR ?zl1 ?zl2 ?_); (case zl1 => omega); (case zl2 => omega))
  | ((with_reducible refine' z_divS ?zl1 ?zl2 ?_); (case zl1 => omega); (case zl2 => omega))
  | ((with_reducible refine' z_mulW ?zl1 ?zl2 ?zl3 ?zl4 ?_); (case zl1 => omega); (case zl2 => omega); (case zl3 => omega); (case zl4 => omega))
  | ((with_reducible refine' z_divW ?zl1 ?zl2 ?_); (case zl1 => omega); (case zl2 => omega)))
local macro_rules | `(tactic| walk_at "zz") => `(tactic| repeat (walk_at "z"))
local macro_rules | `(tactic| walk_at "z") => `(tactic| with_reducible refine z_lstN ?_)
local macro_rules | `(tactic| walk_at "z") => `(tactic| with_reducible refine z_p6 ?_)
local macro_rules | `(tactic| walk_at "z") => `(tactic| with_reducible refine z_p12 ?_)
local macro_rules | `(tactic| walk_at "z") => `(tactic| with_reducible refine z_p13 ?_)
local macro_rules | `(tactic| walk_at "z") => `(tactic| with_reducible refine z_calln ?_)
local macro_rules | `(tactic| walk_at "z") => `(tactic| with_reducible refine z_xfS ?_)
local macro_rules | `(tactic| walk_at "z") => `(tactic| with_reducible refine z_lcS ?_)
local macro_rules | `(tactic| walk_at "z") => `(tactic| with_reducible refine z_lcRS ?_)
local macro_rules | `(tactic| walk_at "z") => `(tactic| with_reducible refine z_lcZS ?_)
local macro_rules | `(tactic| walk_at "z") => `(tactic| with_reducible refine z_foS ?_)
local macro_rules | `(tactic| walk_at "z") => `(tactic| with_reducible refine z_for1 ?_)
local macro_rules | `(tactic| walk_at "z") => `(tactic| with_reducible refine z_tsl ?_)
local macro_rules | `(tactic| walk_at "z") => `(tactic| with_reducible refine z_np ?_)
local macro_rules | `(tactic| walk_at "z") => `(tactic| with_reducible refine z_pt ?_)
local macro_rules | `(tactic| walk_at "z") => `(tactic| with_reducible refine z_pti ?_)
local macro_rules | `(tactic| walk_at "z") => `(tactic| with_reducible refine z_catI ?_)
local macro_rules | `(tactic| walk_at "z") => `(tactic| with_reducible refine z_isNI ?_)
local macro_rules | `(tactic| walk_at "z") => `(tactic| with_reducible refine z_isNN ?_)
local macro_rules | `(tactic| walk_at "z") => `(tactic| with_reducible refine z_notNI ?_)
local macro_rules | `(tactic| walk_at "z") => `(tactic| with_reducible refine z_notNN ?_)
local macro_rules | `(tactic| walk_at "z") => `(tactic| with_reducible refine z_gsub ?_)
local macro_rules | `(tactic| walk_at "z") => `(tactic| with_reducible refine z_isNb ?_)
local macro_rules | `(tactic| walk_at "z") => `(tactic| with_reducible refine z_notNb ?_)
local macro_rules | `(tactic| walk_at "z") => `(tactic| ((with_reducible refine' z_nlR ?zl1 ?_); (case zl1 => exact Nat.le_of_ble_eq_true rfl); intro p H' hp hs he))
local macro_rules | `(tactic| walk_at "z") => `(tactic| ((with_reducible refine' z_repR ?zl1 ?zl2 ?_); (case zl1 => omega); (case zl2 => omega)))
local macro_rules | `(tactic| walk_at "z") => `(tactic| ((with_reducible refine' z_repL ?zl1 ?zl2 ?_); (case zl1 => omega); (case zl2 => omega)))
local macro_rules | `(tactic| walk_at "z") => `(tactic| ((with_reducible refine' z_lenLst ?zl1 ?_); (case zl1 => walk_at "up")))
local macro_rules | `(tactic| walk_at "z") => `(tactic| ((with_reducible refine' z_cat ?zl1 ?zl2 ?zl3 ?_); (case zl1 => walk_at "up"); (case zl2 => walk_at "up"); (case zl3 => (simp only [List.length_map, List.length_cons, List.length_nil, List.length_append, List.length_replicate]; omega)); intro p H' hp hs he))
local macro_rules | `(tactic| walk_at "z") => `(tactic| with_reducible refine z_sfl ?_)
local macro_rules | `(tactic| walk_at "z") => `(tactic| with_reducible refine z_lcES ?_)
local macro_rules | `(tactic| walk_at "z") => `(tactic| with_reducible refine z_lcMS ?_)
local macro_rules | `(tactic| walk_at "z") => `(tactic| with_reducible refine z_foES ?_)
local macro_rules | `(tactic| walk_at "z") => `(tactic| with_reducible refine z_fo3S ?_)
local macro_rules | `(tactic| walk_at "z") => `(tactic| with_reducible refine z_sta ?_)
local macro_rules | `(tactic| walk_at "z") => `(tactic| with_reducible refine z_sta1 ?_)
local macro_rules | `(tactic| walk_at "z") => `(tactic| with_reducible refine z_lcTS ?_)
local macro_rules | `(tactic| walk_at "z") => `(tactic| with_reducible refine z_foTS ?_)
local macro_rules | `(tactic| walk_at "z") => `(tactic| with_reducible refine z_revTS ?_)
local macro_rules | `(tactic| walk_at "z") => `(tactic| with_reducible refine z_max2 ?_)
local macro_rules | `(tactic| walk_at "z") => `(tactic| ((with_reducible refine' z_fldt ?zc1 ?zc2 ?zl1 ?zl2 ?_); (case zc1 => exact Lw.cl_Ratio (by assumption)); (case zc2 => exact Lw.na_Ratio_top (by assumption)); (case zl1 => exact rfl); (case zl2 => walk_at "up")))
local macro_rules | `(tactic| walk_at "z") => `(tactic| ((with_reducible refine' z_fldb ?zc1 ?zc2 ?zl1 ?zl2 ?_); (case zc1 => exact Lw.cl_Ratio (by assumption)); (case zc2 => exact Lw.na_Ratio_bottom (by assumption)); (case zl1 => exact rfl); (case zl2 => walk_at "up")))
local macro_rules | `(tactic| walk_at "z") => `(tactic| ((with_reducible refine' u_mtF ?zl1 ?_); (case zl1 => walk_at "up")))
local macro_rules | `(tactic| walk_at "z") => `(tactic| with_reducible refine z_oaI ?_)
local macro_rules | `(tactic| walk_at "z") => `(tactic| with_reducible refine z_osI ?_)
local macro_rules | `(tactic| walk_at "z") => `(tactic| with_reducible refine z_asg2S ?_)
local macro_rules | `(tactic| walk_at "z") => `(tactic| ((with_reducible refine' z_ixLst ?zl1 ?zl2 ?_); (case zl1 => walk_at "up"); (case zl2 => exact rfl)))
local macro_rules | `(tactic| walk_at "z") => `(tactic| ((with_reducible refine' u_draw ?zl1 ?zl2 ?zl3 ?zl4 ?zl5 ?_); (case zl1 => walk_at "up"); (case zl2 => omega); (case zl3 => omega); (case zl4 => omega); (case zl5 => omega); intro r r0 r1))
local macro_rules | `(tactic| walk_at "z") => `(tactic| ((with_reducible refine' u_cell ?zl1 ?zl2 ?_); (case zl1 => walk_at "up"); (case zl2 => omega); intro c))
local macro_rules | `(tactic| walk_at "z") => `(tactic| with_reducible refine z_eqB ?_)
local macro_rules | `(tactic| walk_at "z") => `(tactic| with_reducible refine z_isB ?_)
local macro_rules | `(tactic| walk_at "z") => `(tactic| with_reducible refine u_whole1 ?_)
local macro_rules | `(tactic| walk_at "z") => `(tactic| ((with_reducible refine' u_mtSC ?zl1 ?_); (case zl1 => walk_at "up")))
local macro_rules | `(tactic| walk_at "z") => `(tactic| with_reducible refine z_lcR2S ?_)
theorem same63f {H H1 H2 : Hp} (h : Same H1 H2) (e : Same H H1) : Same H H2 := e.trans h
local macro_rules | `(tactic| walk_at "sm") => `(tactic| first
  | assumption
  | exact fun _ _ h => h
  | (refine' same63f (by assumption) ?zsm; case zsm => walk_at "sm"))
local macro_rules | `(tactic| walk_at "up") => `(tactic| first
  | assumption
  | (with_reducible refine' IsR.mono (by assumption) ?zup; case zup => walk_at "up")
  | (with_reducible refine' Fr.mono (by assumption) ?zup; case zup => walk_at "up")
  | (with_reducible refine' FS.mono (by assumption) ?zup; case zup => walk_at "up")
  | (with_reducible refine' Sq2.mono (by assumption) ?zup; case zup => walk_at "up")
  | (with_reducible refine' Same.at (by assumption) ?zup; case zup => walk_at "up")
  | (with_reducible refine' IsPool.mono (by assumption) ?zup; case zup => walk_at "up")
  | (with_reducible refine' IsSC.mono (by assumption) ?zup; case zup => walk_at "up")
  | (with_reducible refine' QP.mono (by assumption) ?zup; case zup => walk_at "up")
  | (with_reducible refine' IsW.mono (by assumption) ?zup; case zup => walk_at "up")
  | (with_reducible refine' FB.mono (by assumption) ?zup; case zup => walk_at "up")
  | fail)
section
variable {P : Program} {w : World} {K : Frag} {mg : Str → Option Value} {base : Heap}
theorem ok_law_step (L : Lw K mg) {fd : FuncData} (F : FunD K "_law_step" "_law_step" (defArgs s_law_step) (defBody s_law_step) (defScope s_law_step) (df_law_step.dvs K) (df_law_step.kws K) (He.fAd K ("_law_step", none)) fd) : FnOk P w K mg base (L2N.CX P w) 7 (He.fAd K ("_law_step", none)) fd (["numbers", "over", "given", "tops", "low", "i", "j"] : List Str) (sp7 (fs_step K)) := by
  refine FunD.ok F sc_law_step len7 (fun cdv A outer s H vs Q E hr h => ?_)
  obtain ⟨a, b, c, d, e, u, v, rfl, h⟩ := h
  refine ⟨_, (pss_cons (ps_set (i := 7) sc_law_step.nd rfl (by first | exact Or.inl rfl | exact Or.inr rfl) (pe_callTy (callK rList1 (K := K) rfl o_list1) (by rfl) L.f_list (by decide +kernel) (pa_cons (pv 2) pa_nil)))
    (pss_cons (ps_set (i := 8) sc_law_step.nd rfl (by first | exact Or.inl rfl | exact Or.inr rfl) (pe_c (c_exchanged (K := K) L) hr (by decide) (L2N.takes_of rfl rfl rfl rfl) (pa_cons (pv 2) (pa_cons (pv 5) (pa_cons (pv 6) pa_nil)))))
    (pss_cons (ps_if (pt_not (pt_val (pe_c (c_law_both (K := K) L) hr (by decide) (L2N.takes_of rfl rfl rfl rfl) (pa_cons (pv 8) (pa_cons (pv 3) (pa_cons (pv 4) (pa_cons (pv 5) (pa_cons (pv 6) pa_nil)))))))) (pss_one (ps_ret pe_non)) pss_nil)
    (pss_cons (ps_if (PW.pt (pw_or (pt_not (pt_val (pe_c (c_law_list (K := K) L) hr (by decide) (L2N.takes_of rfl rfl rfl rfl) (pa_cons (pv 2) (pa_cons (pv 3) (pa_cons (pv 4) pa_nil)))))) (pw_or1 (pt_cmpR op_ne (pe_callB (callK rLen1 (K := K) rfl o_len) (by rfl) L.f_len (by decide +kernel) (pa_cons (pv 7) pa_nil)) (pe_callB (callK rLen1 (K := K) rfl o_len) (by rfl) L.f_len (by decide +kernel) (pa_cons (pv 2) pa_nil)) (nomark _))))) (pss_one (ps_ret pe_non)) pss_nil)
    (pss_cons (ps_set (i := 9) sc_law_step.nd rfl (by first | exact Or.inl rfl | exact Or.inr rfl) (pe_lst (pa_cons (pe_c (c_law_halves (K := K) L) hr (by decide) (L2N.takes_of rfl rfl rfl rfl) (pa_cons (pv 3) (pa_cons (pv 5) (pa_cons (pv 6) pa_nil)))) (pa_cons (pe_c (c_law_moved (K := K) L) hr (by decide) (L2N.takes_of rfl rfl rfl rfl) (pa_cons (pv 3) (pa_cons (pv 5) (pa_cons (pv 6) pa_nil)))) pa_nil))))
    (pss_cons (ps_setLc (i := 10) (own := [("row", 11)]) (g := (gName 11)) (tt := tYes) rfl sc_law_step.nd rfl rfl (sw_true rfl rfl rfl (by decide +kernel)) (pi_listK (K := K) rfl (pv 9)) (blkOk_by (N := ["numbers", "over", "given", "tops", "low", "i", "j", "kept", "told", "rows", "values", "row", "k", "least", "again"]) (sc := defScope s_law_step) (by decide +kernel)) (fun _ _ _ _ _ => pg_name (i := 11) sc_law_step.nd rfl (Or.inl rfl)) (fun _ _ _ _ _ => pts_nil) (fun _ _ _ _ _ => (pe_c (c_law_six (K := K) L) hr (by decide) takesF (pa_cons (pv 0) (pa_cons (pv 11) pa_nil)))))
    (pss_cons (ps_for (passes_of rfl) rfl (pi_range1 (by rfl) L.f_range (pa_cons pe_int pa_nil)) (pg_name (i := 12) sc_law_step.nd rfl (by first | exact Or.inl rfl | exact Or.inr rfl)) (pss_one (ps_if (pt_not (pt_val (pe_c (c_law_value (K := K) L) hr (by decide) (L2N.takes_of rfl rfl rfl rfl) (pa_cons (pv 0) (pa_cons (pv 1) (pa_cons (pe_ix (ix_seqK (K := K) rfl) (pv 8) (pv 12) (fun _ _ => rfl)) (pa_cons (pe_ix (ix_seqK (K := K) rfl) (pv 9) (pv 12) (fun _ _ => rfl)) (pa_cons (pe_op o_rep pe_int (pv 4)) pa_nil)))))))) (pss_one (ps_ret pe_non)) pss_nil)))
    (pss_cons (ps_set (i := 13) sc_law_step.nd rfl (by first | exact Or.inl rfl | exact Or.inr rfl) (pe_callB (callK rMin (K := K) rfl (cr_min rfl)) (by rfl) L.f_min (by decide +kernel) (pa_cons (pv 10) pa_nil)))
    (pss_cons (ps_if (pt_cmpR o_gt (pv 13) (pe_op o_rep pe_int (pe_c (c_law_six (K := K) L) hr (by decide) (L2N.takes_of rfl rfl rfl rfl) (pa_cons (pv 0) (pa_cons (pv 3) pa_nil)))) (nomark _)) (pss_one (ps_ret pe_non)) pss_nil)
    (pss_cons (ps_set (i := 12) sc_law_step.nd rfl (by first | exact Or.inl rfl | exact Or.inr rfl) (pe_bm PySem.F.plainAttrs_list PySem.F.slot_list_index PySem.F.type_list_index mt_index (pv 10) (pa_cons (pv 13) pa_nil)))
    (pss_cons (ps_expr (pe_bm PySem.F.plainAttrs_list PySem.F.slot_list_append PySem.F.type_list_append mt_append (pv 2) (pa_cons (pe_mk (c1_RatioD_initD (K := K) L) hr (by decide) (L2N.takes_of rfl rfl rfl rfl) (pa_cons pe_int pa_nil)) pa_nil)))
    (pss_cons (ps_asg (pe_mk (c1_RatioD_initD (K := K) L) hr (by decide) (L2N.takes_of rfl rfl rfl rfl) (pa_cons pe_int pa_nil)) (pg_sub (pv 2) pe_int set_list))
    (pss_cons (ps_asg (pe_mk (c1_RatioD_initD (K := K) L) hr (by decide) (L2N.takes_of rfl rfl rfl rfl) (pa_cons pe_int pa_nil)) (pg_sub (pe_ix (ix_seqK (K := K) rfl) (pv 8) (pe_op o_sub pe_int (pv 12)) (fun _ _ => rfl)) pe_int set_list))
    (pss_cons (ps_set (i := 14) sc_law_step.nd rfl (by first | exact Or.inl rfl | exact Or.inr rfl) (pe_ck0 (ck_exchanged_0_j_shares_i (K := K) L) hr (by decide) passF (pk_cons (pv 6) (pk_cons (pv 7) (pk_cons (pv 5) pk_nil)))))
    (pss_cons (ps_if (pt_not (pt_val (pe_c (c_law_both (K := K) L) hr (by decide) (L2N.takes_of rfl rfl rfl rfl) (pa_cons (pv 14) (pa_cons (pv 3) (pa_cons (pv 4) (pa_cons (pv 5) (pa_cons (pv 6) pa_nil)))))))) (pss_one (ps_ret pe_non)) pss_nil)
    (pss_one (ps_ret (pe_lst (pa_cons (pe_callTy (callK rList1 (K := K) rfl o_list1) (by rfl) L.f_list (by decide +kernel) (pa_cons (pe_ix (ix_seqK (K := K) rfl) (pv 8) (pv 12) (fun _ _ => rfl)) pa_nil)) (pa_cons (pe_ix (ix_seqK (K := K) rfl) (pv 9) (pv 12) (fun _ _ => rfl)) pa_nil)))))))))))))))))))), ?_⟩
  rw [show L2.start (["numbers", "over", "given", "tops", "low", "i", "j", "kept", "told", "rows", "values", "row", "k", "least", "again"] : List Str) [a, b, c, d, e, u, v] = [some a, some b, some c, some d, some e, some u, some v, none, none, none, none, none, none, none, none] from rfl]
  obtain ⟨p, gs, q, A, B, C, ov, low, i, j, xs, ts, M, rfl, rfl, rfl, rfl, rfl, rfl, rfl, hp, hq, o1, o2, bA, bB, bC, hS, hgs, lx, n2, n200, nn, bt, hM, l0, bl, i0, i1, j0, j1, ne, k⟩ := h
  have bt60 : ∀ k, Bits 60 (cf ts k) := fun k => (bt k).up (by omega)
  have nqg : q ≠ gs := hS.ne_ints hgs (by omega) hq
  have npg : p ≠ gs := hS.ne_ints (ts := [A, B, C]) hgs (by omega) hp
  try dsimp only [List.set]
  walk_at "zz"
  refine z_listL (SqL.of hgs) (fun kp H1 hkp0 s1 hkp => ?_)
  have nkg : kp ≠ gs := fun e => by
    rw [e, hgs] at hkp0
    cases hkp0
  have kph1 := hkp
  have fk : FS K H1 kp xs (cf ts) low := ⟨.inl hkp, (hS.mono s1).2⟩
  try dsimp only [List.set]
  walk_at "zz"
  refine ⟨_, _, _, rfl, gs, xs, cf ts, low, i, j, rfl, rfl, rfl, hS.mono s1, l0, bt60, bl.up (by decide), fun z => absurd ⟨by omega, n200⟩ z, fun _ _ j x hx hj _ => absurd hj (by have := nn j; omega), fun _ _ _ => ⟨fun z => absurd ⟨i0, i1⟩ z, fun _ _ z => absurd ⟨j0, j1, ne⟩ z, fun _ _ _ _ _ t h m H2 ys zs zh zm nhm s2 ht fh eh ly fm em lz => ?_⟩⟩
  have hq2 := s2 _ _ (s1 _ _ hq)
  have hp2 := s2 _ _ (s1 _ _ hp)
  try dsimp only [List.set]
  walk_at "zz"
  refine ⟨_, _, _, _, _, rfl, t, h, m, q, ys, zs, ts, low, i, j, rfl, rfl, rfl, rfl, rfl, ht, hq2, by omega, i0, by omega, j0, by omega, l0, bl.up (by decide), fun k => (bt k).up (by omega), fh, eh, by omega, fm, em, by omega, fun H3 s3 => ?_⟩
  have s13 := (s1.trans s2).trans s3
  try dsimp only [List.set]
  walk_at "zz"
  refine ⟨_, _, _, rfl, gs, q, xs, ts, _, low, low, rfl, rfl, rfl, hS.mono s13, s13 _ _ hgs, s13 _ _ hq, lx, by omega, l0, bt60, bl.up (by decide), bt60, bl.up (by decide), fun k _ => rfl, fun H4 s4 => ?_⟩
  have s14 := s13.trans s4
  have hk4 := s4 _ _ (s3 _ _ (s2 _ _ hkp))
  have hg4 := s14 _ _ hgs
  try dsimp only [List.set]
  walk_at "zz"
  refine z_dT rfl ?_
  try dsimp only [List.set]
  walk_at "zz"
  refine ⟨_, _, _, rfl, q, ts, i, j, rfl, rfl, rfl, s14 _ _ hq, by omega, i0, by omega, j0, by omega, fun r1 H5 row1 zr1 s5 er1 lr1 cr1 => ?_⟩
  try dsimp only [List.set]
  walk_at "zz"
  refine ⟨_, _, _, rfl, q, ts, i, j, rfl, rfl, rfl, s5 _ _ (s14 _ _ hq), by omega, i0, by omega, j0, by omega, fun r2 H6 row2 zr2 s6 er2 lr2 cr2 => ?_⟩
  have s16 := (s14.trans s5).trans s6
  have s26 : Same H2 H6 := (s3.trans s4).trans (s5.trans s6)
  have er1 := s6 _ _ er1
  have b1 : ∀ k, Bits 60 (cf row1 k) := fun k => by rw [cr1]; exact Bits.up (halv_bits bt _ _ k) (by omega)
  have b2 : ∀ k, Bits 60 (cf row2 k) := fun k => by rw [cr2]; exact Bits.up (movd_bits bt _ _ k) (by omega)
  try dsimp only [List.set]
  walk_at "zz"
  rename_i R H7 zR s7 hR
  have nRh : R ≠ h := fun e => by
    have z := s26 _ _ eh
    rw [← e, zR] at z
    cases z
  have nRm : R ≠ m := fun e => by
    have z := s26 _ _ em
    rw [← e, zR] at z
    cases z
  have s17 := s16.trans s7
  have s27 := s26.trans s7
  have er1 := s7 _ _ er1
  have er2 := s7 _ _ er2
  have hp7 := s17 _ _ hp
  refine z_lcVF (fun k => V.int (if k = 0 then S63.six A B C row1 else S63.six A B C row2)) hR (Nat.le_of_ble_eq_true rfl) (fun k x H8 N8 hx s8 cc => ⟨rfl, ?_⟩) (fun D HD zD sD hD => ?_)
  · rcases two_at hx with ⟨rfl, rfl⟩ | ⟨rfl, rfl⟩
    · try dsimp only [List.set]
      walk_at "zz"
      exact ⟨_, _, rfl, p, r1, A, B, C, row1, rfl, rfl, s8 _ _ hp7, s8 _ _ er1, by omega, bA, bB, bC, b1, fun H9 s9 => cc _ s9⟩
    · try dsimp only [List.set]
      walk_at "zz"
      exact ⟨_, _, rfl, p, r2, A, B, C, row2, rfl, rfl, s8 _ _ hp7, s8 _ _ er2, by omega, bA, bB, bC, b2, fun H9 s9 => cc _ s9⟩
  have hD : HD D = some (.lst ([S63.six A B C row1, S63.six A B C row2].map V.int)) := hD
  have s18 := s17.trans sD
  have s28 := s27.trans sD
  have er1 := sD _ _ er1
  have er2 := sD _ _ er2
  have hR := sD _ _ hR
  have w2b : Bits 12 (2 * low) := Bits.up (Bits.mul (a := 2) (Bits.small (by decide) (by decide)) bl) (by decide)
  try dsimp only [List.set]
  walk_at "zz"
  refine z_foR (by decide) (by decide) (fun c σ' H' => ∃ x12 : Option V, σ' = [some (.ref p), some (.int ov), some (.ref gs), some (.ref q), some (.int low), some (.int i), some (.int j), some (.ref kp), some (.ref t), some (.ref R), some (.ref D), none, x12, none, none] ∧ Same HD H') ⟨_, rfl, fun _ _ h => h⟩ ?_ ?_
  · rintro c σ' H8 hc ⟨x12, rfl, s8⟩
    have hc : c < 2 := hc
    have s29 := s28.trans s8
    have hc : c = 0 ∨ c = 1 := by omega
    rcases hc with rfl | rfl
    · try dsimp only [List.set]
      walk_at "zz"
      refine z_ixLst (s8 _ _ hR) rfl ?_
      try dsimp only [List.set]
      walk_at "zz"
      refine ⟨_, _, _, _, _, rfl, p, h, r1, A, B, C, ov, 2 * low, ys, _, row1, rfl, rfl, rfl, rfl, rfl, s8 _ _ (s18 _ _ hp), s8 _ _ er1, o1, o2, bA, bB, bC, fh.mono s29, by omega, by omega, by omega, fun k _ => (cr1 k).symm, fun k _ => halv_nn nn k, fun k => Bits.up (halv_bits bt _ _ k) (by omega), b1, by omega, w2b, fun H9 s9 => ?_⟩
      try dsimp only [List.set]
      walk_at "zz"
      exact ⟨_, rfl, s8.trans s9⟩
    · try dsimp only [List.set]
      walk_at "zz"
      refine z_ixLst (s8 _ _ hR) rfl ?_
      try dsimp only [List.set]
      walk_at "zz"
      refine ⟨_, _, _, _, _, rfl, p, m, r2, A, B, C, ov, 2 * low, zs, _, row2, rfl, rfl, rfl, rfl, rfl, s8 _ _ (s18 _ _ hp), s8 _ _ er2, o1, o2, bA, bB, bC, fm.mono s29, by omega, by omega, by omega, fun k _ => (cr2 k).symm, fun k _ => movd_nn nn k, fun k => Bits.up (movd_bits bt _ _ k) (by omega), b2, by omega, w2b, fun H9 s9 => ?_⟩
      try dsimp only [List.set]
      walk_at "zz"
      exact ⟨_, rfl, s8.trans s9⟩
  rintro σ' H8 ⟨x12, rfl, s8⟩
  have s19 := s18.trans s8
  have s29 := s28.trans s8
  have hR := s8 _ _ hR
  have er1 := s8 _ _ er1
  have er2 := s8 _ _ er2
  have hD := s8 _ _ hD
  have hk8 : H8 kp = some (.lst xs) := s29 _ _ (s2 _ _ hkp)
  have hi' : i.toNat < ts.length := by omega
  have hj' : j.toNat < ts.length := by omega
  have six1 : six (cf [A, B, C]) (halv (cf ts) i.toNat j.toNat) ts.length = S63.six A B C row1 := by
    rw [← lr1]
    exact six_list fun k _ => (cr1 k).symm
  have six2 : six (cf [A, B, C]) (movd (cf ts) i.toNat j.toNat) ts.length = S63.six A B C row2 := by
    rw [← lr2]
    exact six_list fun k _ => (cr2 k).symm
  have six0 : six (cf [A, B, C]) (cf ts) ts.length = S63.six A B C ts := six_list fun k _ => rfl
  have ex := exch_le (N := cf [A, B, C]) (T := cf ts) hi' hj' (by omega) (nn _) (nn _)
  rw [six1, six2, six0] at ex
  try dsimp only [List.set]
  walk_at "zz"
  refine z_minL hD (Nat.le_of_ble_eq_true rfl) (fun ls lm ll => ?_)
  have le1 := ll _ (show S63.six A B C row1 ∈ [S63.six A B C row1, S63.six A B C row2] by simp)
  have le2 := ll _ (show S63.six A B C row2 ∈ [S63.six A B C row1, S63.six A B C row2] by simp)
  have le8 : ls ≤ 8 * S63.six A B C ts := by omega
  try dsimp only [List.set]
  walk_at "zz"
  refine ⟨_, _, rfl, p, q, A, B, C, ts, rfl, rfl, s19 _ _ hp, s19 _ _ hq, by omega, bA, bB, bC, bt60, fun Ha sa => ?_⟩
  try dsimp only [List.set]
  walk_at "zz"
  refine z_dF (by omega) ?_
  have sHa := s19.trans sa
  have s2a := s29.trans sa
  have hga := sHa _ _ hgs
  have hqa := sHa _ _ hq
  have ht := s2a _ _ ht
  have hR := sa _ _ hR
  have er1 := sa _ _ er1
  have er2 := sa _ _ er2
  have hD := sa _ _ hD
  have hkp : Ha kp = some (.lst xs) := sa _ _ hk8
  have eh := s2a _ _ eh
  have em := s2a _ _ em
  have fh := fh.mono s2a
  have fm := fm.mono s2a
  have fka : FS K Ha kp xs (cf ts) low := ⟨.inl hkp, (hS.mono sHa).2⟩
  have zh0 : H h = none := Same.none s1 zh
  have zm0 : H m = none := Same.none s1 zm
  have ngh : h ≠ gs := fun e => by rw [e, hgs] at zh0; cases zh0
  have ngm : m ≠ gs := fun e => by rw [e, hgs] at zm0; cases zm0
  have nkh : h ≠ kp := fun e => by rw [e] at zh; have := kph1; rw [zh] at this; cases this
  have nkm : m ≠ kp := fun e => by rw [e] at zm; have := kph1; rw [zm] at this; cases this
  have nqh : q ≠ h := fun e => by rw [← e, hq] at zh0; cases zh0
  have nqm : q ≠ m := fun e => by rw [← e, hq] at zm0; cases zm0
  have ngt : t ≠ gs := fun e => by rw [e, hga] at ht; cases ht
  have ngR : R ≠ gs := fun e => by
    have z := Same.none s16 zR
    rw [e, hgs] at z
    cases z
  have ngr1 : r1 ≠ gs := hS.mono sHa |>.ne_ints hga (by omega) er1
  have ngr2 : r2 ≠ gs := hS.mono sHa |>.ne_ints hga (by omega) er2
  have nr1m : r1 ≠ m := fm.ne_ints em (by omega) er1
  have nr2h : r2 ≠ h := fh.ne_ints eh (by omega) er2
  have nmh : m ≠ h := nhm.symm
  clear s8 s14 s16 s26 s17 s27 s18 s28 sD s13
  have l200 : xs.length < 16777216 := by omega
  by_cases first : ls = S63.six A B C row1
  · subst first
    try dsimp only [List.set]
    walk_at "zz"
    refine z_bmi hD rfl ?_
    try dsimp only [List.set]
    walk_at "zz"
    refine ⟨D, _, _, 0, _, rfl, rfl, SqL.of hD, rfl, by simp [flatV], rfl, by simp [eqV], fun m' z' hm' => absurd hm' (Nat.not_lt_zero _), ?_⟩
    try dsimp only [List.set]
    walk_at "zz"
    refine z_app rfl hga ?_
    try dsimp only [List.set]
    walk_at "zz"
    refine u_mkF1 (fun n7 Hb sb _ => ?_)
    have gsb := sb _ _ hga
    try dsimp only [List.set]
    walk_at "zz"
    refine z_ap gsb (by omega) ?_
    have b1 : ∀ a o, a ≠ gs → Hb a = some o → (upd Hb gs (.lst (xs ++ [V.ref n7]))) a = some o := fun a o ne ho => by rw [upd_ne ne]; exact ho
    have m1 : SameN Hb (upd Hb gs (.lst (xs ++ [V.ref n7]))) := SameN.put gsb
    have gsc : (upd Hb gs (.lst (xs ++ [V.ref n7]))) gs = some (.lst (xs ++ [V.ref n7])) := upd_same
    generalize (upd Hb gs (.lst (xs ++ [V.ref n7]))) = Hc at *
    try dsimp only [List.set]
    walk_at "zz"
    refine u_mkF1 (fun n99 Hd sd _ => ?_)
    have gsd := sd _ _ gsc
    try dsimp only [List.set]
    walk_at "zz"
    refine z_setL (j := 0) gsd rfl (by simp) ?_
    have b2 : ∀ a o, a ≠ gs → Hd a = some o → (upd Hd gs (.lst ((xs ++ [V.ref n7]).set 0 (V.ref n99)))) a = some o := fun a o ne ho => by rw [upd_ne ne]; exact ho
    have m2 : SameN Hd (upd Hd gs (.lst ((xs ++ [V.ref n7]).set 0 (V.ref n99)))) := SameN.put gsd
    generalize (upd Hd gs (.lst ((xs ++ [V.ref n7]).set 0 (V.ref n99)))) = He at *
    try dsimp only [List.set]
    walk_at "zz"
    refine u_mkF1 (fun n98 Hf sf _ => ?_)
    have toF : ∀ a o, a ≠ gs → Ha a = some o → Hf a = some o := fun a o ne ho => sf _ _ (b2 a o ne (sd _ _ (b1 a o ne (sb _ _ ho))))
    have ht' := toF _ _ ngt ht
    have htm := toF _ _ ngm em
    try dsimp only [List.set]
    walk_at "zz"
    refine z_setL (j := 0) htm rfl (by omega) ?_
    have b3 : ∀ a o, a ≠ m → Hf a = some o → (upd Hf m (.lst (zs.set 0 (V.ref n98)))) a = some o := fun a o ne ho => by rw [upd_ne ne]; exact ho
    have m3 : SameN Hf (upd Hf m (.lst (zs.set 0 (V.ref n98)))) := SameN.put htm
    generalize (upd Hf m (.lst (zs.set 0 (V.ref n98)))) = Hg at *
    have toG : ∀ a o, a ≠ gs → a ≠ m → Ha a = some o → Hg a = some o := fun a o ne ne2 ho => b3 a o ne2 (toF a o ne ho)
    have mG : SameN Ha Hg := ((((SameN.of sb).trans m1).trans ((SameN.of sd).trans m2)).trans (SameN.of sf)).trans m3
    have kG : FS K Hg kp xs (cf ts) low := ⟨.inl (toG _ _ nkg (fun e => nkm e.symm) hkp), fun k x hx => itF_mono _ _ _ _ mG (fka.2 k x hx)⟩
    have qG : Hg q = some (.lst (ts.map V.int)) := toG _ _ nqg nqm hqa
    try dsimp only [List.set]
    walk_at "zz"
    refine ⟨rfl, rfl, _, _, _, rfl, kp, xs, cf ts, low, i, j, rfl, rfl, rfl, kG, l0, fun k => (bt k).up (by omega), bl.up (by decide), fun z => absurd ⟨by omega, n200⟩ z, fun _ _ j x hx hj _ => absurd hj (by have := nn j; omega), fun _ _ _ => ⟨fun z => absurd ⟨i0, i1⟩ z, fun _ _ z => absurd ⟨j0, j1, ne⟩ z, fun _ _ _ _ _ t2 h2 m2' Hh ys2 zs2 _ _ _ sh et2 fh2 eh2 lh2 fm2 em2 lm2 => ?_⟩⟩
    try dsimp only [List.set]
    walk_at "zz"
    refine ⟨_, _, _, _, _, rfl, t2, h2, m2', q, ys2, zs2, ts, low, i, j, rfl, rfl, rfl, rfl, rfl, et2, sh _ _ qG, by omega, i0, by omega, j0, by omega, l0, bl.up (by decide), fun k => (bt k).up (by omega), fh2, eh2, by omega, fm2, em2, by omega, fun Hi si => ?_⟩
    have tkI := si _ _ (sh _ _ (toG _ _ ngh nhm eh))
    have rI := si _ _ (sh _ _ (toG _ _ ngR nRm hR))
    have rkI := si _ _ (sh _ _ (toG _ _ ngr1 nr1m er1))
    have htI := si _ _ (sh _ _ (b3 _ _ (fun e => by rw [e] at ht'; rw [htm] at ht'; cases ht') ht'))
    try dsimp only [List.set]
    walk_at "zz"
    refine z_listL (SqL.of tkI) (fun o1 Hj ho1 sj e1 => ?_)
    try dsimp only [List.set]
    walk_at "zz"
    rename_i rr Hk hrr srr err
    have okT : ∀ k x, ys[k]? = some x → itF K (halv (cf ts) i.toNat j.toNat) (2 * low) Hk x k := fun k x hx => itF_mono _ _ _ _ ((mG.trans (SameN.of ((sh.trans si).trans sj))).trans (SameN.of srr)) (fh.2 k x hx)
    refine k rr o1 r1 Hk ys row1 (fun a o na ho => srr _ _ (sj _ _ (si _ _ (sh _ _ (toG a o na (fun e => by rw [e] at ho; rw [zm0] at ho; cases ho) (sHa _ _ ho)))))) err ⟨.inl (srr _ _ e1), fun k x hx => ?_⟩ (srr _ _ e1) (srr _ _ (sj _ _ rkI)) (by omega) (by omega) (fun k => by rw [cr1]; exact halv_nn nn k) (fun k => by rw [cr1]; exact (fun k => Bits.up (halv_bits bt _ _ k) (by omega))  k) le8
    obtain ⟨a, ea, fa⟩ := okT k x hx
    exact ⟨a, ea, by rw [cr1]; exact fa⟩
  · have second : ls = S63.six A B C row2 := by
      rcases List.mem_cons.mp lm with z | z
      · exact absurd z first
      · simpa using z
    subst second
    try dsimp only [List.set]
    walk_at "zz"
    refine z_bmi hD rfl ?_
    try dsimp only [List.set]
    walk_at "zz"
    refine ⟨D, _, _, 1, _, rfl, rfl, SqL.of hD, rfl, by simp [flatV], rfl, by simp [eqV], fun m' z' hm' hz' => ?_, ?_⟩
    · obtain rfl : m' = 0 := by omega
      obtain rfl : V.int (S63.six A B C row1) = z' := Option.some.inj hz'
      simp only [eqV, beq_eq_false_iff_ne]
      exact fun e => first e.symm
    try dsimp only [List.set]
    walk_at "zz"
    refine z_app rfl hga ?_
    try dsimp only [List.set]
    walk_at "zz"
    refine u_mkF1 (fun n7 Hb sb _ => ?_)
    have gsb := sb _ _ hga
    try dsimp only [List.set]
    walk_at "zz"
    refine z_ap gsb (by omega) ?_
    have b1 : ∀ a o, a ≠ gs → Hb a = some o → (upd Hb gs (.lst (xs ++ [V.ref n7]))) a = some o := fun a o ne ho => by rw [upd_ne ne]; exact ho
    have m1 : SameN Hb (upd Hb gs (.lst (xs ++ [V.ref n7]))) := SameN.put gsb
    have gsc : (upd Hb gs (.lst (xs ++ [V.ref n7]))) gs = some (.lst (xs ++ [V.ref n7])) := upd_same
    generalize (upd Hb gs (.lst (xs ++ [V.ref n7]))) = Hc at *
    try dsimp only [List.set]
    walk_at "zz"
    refine u_mkF1 (fun n99 Hd sd _ => ?_)
    have gsd := sd _ _ gsc
    try dsimp only [List.set]
    walk_at "zz"
    refine z_setL (j := 0) gsd rfl (by simp) ?_
    have b2 : ∀ a o, a ≠ gs → Hd a = some o → (upd Hd gs (.lst ((xs ++ [V.ref n7]).set 0 (V.ref n99)))) a = some o := fun a o ne ho => by rw [upd_ne ne]; exact ho
    have m2 : SameN Hd (upd Hd gs (.lst ((xs ++ [V.ref n7]).set 0 (V.ref n99)))) := SameN.put gsd
    generalize (upd Hd gs (.lst ((xs ++ [V.ref n7]).set 0 (V.ref n99)))) = He at *
    try dsimp only [List.set]
    walk_at "zz"
    refine u_mkF1 (fun n98 Hf sf _ => ?_)
    have toF : ∀ a o, a ≠ gs → Ha a = some o → Hf a = some o := fun a o ne ho => sf _ _ (b2 a o ne (sd _ _ (b1 a o ne (sb _ _ ho))))
    have ht' := toF _ _ ngt ht
    have htm := toF _ _ ngh eh
    try dsimp only [List.set]
    walk_at "zz"
    refine z_setL (j := 0) htm rfl (by omega) ?_
    have b3 : ∀ a o, a ≠ h → Hf a = some o → (upd Hf h (.lst (ys.set 0 (V.ref n98)))) a = some o := fun a o ne ho => by rw [upd_ne ne]; exact ho
    have m3 : SameN Hf (upd Hf h (.lst (ys.set 0 (V.ref n98)))) := SameN.put htm
    generalize (upd Hf h (.lst (ys.set 0 (V.ref n98)))) = Hg at *
    have toG : ∀ a o, a ≠ gs → a ≠ h → Ha a = some o → Hg a = some o := fun a o ne ne2 ho => b3 a o ne2 (toF a o ne ho)
    have mG : SameN Ha Hg := ((((SameN.of sb).trans m1).trans ((SameN.of sd).trans m2)).trans (SameN.of sf)).trans m3
    have kG : FS K Hg kp xs (cf ts) low := ⟨.inl (toG _ _ nkg (fun e => nkh e.symm) hkp), fun k x hx => itF_mono _ _ _ _ mG (fka.2 k x hx)⟩
    have qG : Hg q = some (.lst (ts.map V.int)) := toG _ _ nqg nqh hqa
    try dsimp only [List.set]
    walk_at "zz"
    refine ⟨rfl, rfl, _, _, _, rfl, kp, xs, cf ts, low, i, j, rfl, rfl, rfl, kG, l0, fun k => (bt k).up (by omega), bl.up (by decide), fun z => absurd ⟨by omega, n200⟩ z, fun _ _ j x hx hj _ => absurd hj (by have := nn j; omega), fun _ _ _ => ⟨fun z => absurd ⟨i0, i1⟩ z, fun _ _ z => absurd ⟨j0, j1, ne⟩ z, fun _ _ _ _ _ t2 h2 m2' Hh ys2 zs2 _ _ _ sh et2 fh2 eh2 lh2 fm2 em2 lm2 => ?_⟩⟩
    try dsimp only [List.set]
    walk_at "zz"
    refine ⟨_, _, _, _, _, rfl, t2, h2, m2', q, ys2, zs2, ts, low, i, j, rfl, rfl, rfl, rfl, rfl, et2, sh _ _ qG, by omega, i0, by omega, j0, by omega, l0, bl.up (by decide), fun k => (bt k).up (by omega), fh2, eh2, by omega, fm2, em2, by omega, fun Hi si => ?_⟩
    have tkI := si _ _ (sh _ _ (toG _ _ ngm nmh em))
    have rI := si _ _ (sh _ _ (toG _ _ ngR nRh hR))
    have rkI := si _ _ (sh _ _ (toG _ _ ngr2 nr2h er2))
    have htI := si _ _ (sh _ _ (b3 _ _ (fun e => by rw [e] at ht'; rw [htm] at ht'; cases ht') ht'))
    try dsimp only [List.set]
    walk_at "zz"
    refine z_listL (SqL.of tkI) (fun o1 Hj ho1 sj e1 => ?_)
    try dsimp only [List.set]
    walk_at "zz"
    rename_i rr Hk hrr srr err
    have okT : ∀ k x, zs[k]? = some x → itF K (movd (cf ts) i.toNat j.toNat) (2 * low) Hk x k := fun k x hx => itF_mono _ _ _ _ ((mG.trans (SameN.of ((sh.trans si).trans sj))).trans (SameN.of srr)) (fm.2 k x hx)
    refine k rr o1 r2 Hk zs row2 (fun a o na ho => srr _ _ (sj _ _ (si _ _ (sh _ _ (toG a o na (fun e => by rw [e] at ho; rw [zh0] at ho; cases ho) (sHa _ _ ho)))))) err ⟨.inl (srr _ _ e1), fun k x hx => ?_⟩ (srr _ _ e1) (srr _ _ (sj _ _ rkI)) (by omega) (by omega) (fun k => by rw [cr2]; exact movd_nn nn k) (fun k => by rw [cr2]; exact (fun k => movd_bits bt _ _ k)  k) le8
    obtain ⟨a, ea, fa⟩ := okT k x hx
    exact ⟨a, ea, by rw [cr2]; exact fa⟩
theorem c_law_step (L : Lw K mg) : Cal P w K mg base 7 "_law_step" (sp7 (fs_step K)) [] := by
  obtain ⟨fd, F⟩ := L.d_law_step
  exact ⟨⟨_, fd, ["numbers", "over", "given", "tops", "low", "i", "j"], [], ok_law_step L F, L.g_law_step, F.kp, F.bindsN (fun _ _ _ _ _ _ us hl => match us, hl with | [_, _, _, _, _, _, _], _ => rfl), .nil⟩⟩
end
end T
set_option maxHeartbeats 4000000
namespace T
open PySem PySem.Spec PyProof.Rows L2 Z
open S31 (cf)
open S30
theorem z_p30 {H : Hp} {Q : VK} (q : Q (.int 1000000000000000000000000000000) H) : zPow (.int 10) (.int 30) H Q := z_pow ⟨by decide, by decide, by decide⟩ q
theorem ints_of {R : Int → Prop} : ∀ (xs : List V), (∀ (k : Nat) (x : V), xs[k]? = some x → ∃ m : Int, x = V.int m ∧ R m) → ∃ ns : List Int, xs = ns.map V.int ∧ ∀ m, m ∈ ns → R m
  | [], _ => ⟨[], rfl, fun m h => by cases h⟩
  | x :: xs, h => by
    obtain ⟨ns, e, q⟩ := ints_of xs (fun k y hy => h (k + 1) y hy)
    obtain ⟨m, rfl, m1⟩ := h 0 x rfl
    refine ⟨m :: ns, by rw [e] <;> rfl, fun j hj => ?_⟩
    rcases List.mem_cons.mp hj with rfl | hj
    · exact m1
    · exact q j hj
theorem at3 {s : Int} (h0 : 0 ≤ s) (h1 : s < 3) : ∃ n : Int, 1 ≤ n ∧ n ≤ 1000000000000000000000000000000 ∧ atI [V.int 1, V.int 1, V.int 1000000000000000000000000000000] s = some (.int n) := by
  have h : s = 0 ∨ s = 1 ∨ s = 2 := by omega
  rcases h with rfl | rfl | rfl <;> exact ⟨_, by decide, by decide, rfl⟩
theorem cf_mem {ts : List Int} {R : Int → Prop} (h : ∀ x, x ∈ ts → R x) (h0 : R 0) (k : Nat) : R (cf ts k) := by
  by_cases c : k < ts.length
  · rw [S31.cf_in c]
    exact h _ (List.getElem_mem c)
  · rw [S31.cf_out (by omega)]
    exact h0
theorem cf_take1 {ts : List Int} (k : Nat) : cf (ts.take 1) k = if k = 0 then cf ts 0 else 0 := by
  match ts with
  | [] => by_cases e : k = 0 <;> simp [cf, e]
  | x :: l =>
    match k with
    | 0 => rfl
    | k + 1 => simp [cf]
theorem j_ne {i d m : Int} (i0 : 0 ≤ i) (i1 : i < m) (d0 : 0 ≤ d) (d1 : d < m - 1) : 0 ≤ (i + 1 + d) % m ∧ (i + 1 + d) % m < m ∧ (i + 1 + d) % m ≠ i := by
  refine ⟨Int.emod_nonneg _ (by omega), Int.emod_lt_of_pos _ (by omega), ?_⟩
  by_cases c : i + 1 + d < m
  · rw [Int.emod_eq_of_lt (by omega) c]
    omega
  · have q1 : 1 ≤ (i + 1 + d) / m := (Int.le_ediv_iff_mul_le (by omega)).mpr (by omega)
    have q2 : (i + 1 + d) / m < 2 := (Int.ediv_lt_iff_lt_mul (by omega)).mpr (by omega)
    have q3 : (i + 1 + d) / m = 1 := by omega
    rw [Int.emod_def, q3]
    omega
theorem _root_.Z.Bits.dbl {a : Nat} {x : Int} (h : Bits a x) : Bits (a + 1) (2 * x) := by
  unfold Bits at *
  rw [Nat.pow_succ, Int.natAbs_mul]
  show 2 * x.natAbs < _
  omega
theorem pool_ne {K : Frag} {H : Hp} {g c : Addr} {xs : List V} {T : Nat → Int} {w : Int} (h : FS K H g xs T w) (hg : H g = some (.lst xs)) (n : 1 ≤ xs.length) (hc : IsPool H c) : c ≠ g := hc.elim fun ns e => h.ne_ints hg n e
def SLot (script c : Addr) (m low : Int) (drawn q p : Addr) (scale ov : Int) (g : Addr) (start i j am : Int) (x16 x17 : Option V) : L2.St := [some (.ref script), some (.ref c), some (.int m), some (.int low), some (.ref drawn), none, some (.ref q), none, some (.int scale), some (.ref p), some (.int ov), some (.ref g), some (.int start), some (.int i), some (.int j), some (.int am), x16, x17]
/-! the readings' steps, as one word: walk_at "z" (one step), "zz" (as far as it goes), "up" (a fact carried here) -/
local macro_rules | `(tactic| walk_at "up") => `(tactic| first
  | assumption
  | (refine' IsR.mono (by assumption) ?zup; case zup => walk_at "up")
  | (refine' IsE.mono (by assumption) ?zup; case zup => walk_at "up")
  | (refine' Same.at (by assumption) ?zup; case zup => walk_at "up")
  | (refine' SqL.of ?zup; case zup => walk_at "up")
  | (refine' L2.Same.seq (by assumption) ?zup; case zup => walk_at "up"))
local macro_rules | `(tactic| walk_at "z") => `(tactic| first
  | ((with_reducible refine' z_var ?zvh ?_); (case zvh => exact rfl))
  | with_reducible refine z_c ?_
  | with_reducible refine z_cons ?_
  | with_reducible refine z_nil ?_
  | with_reducible refine z_op ?_
  | with_reducible refine z_nx ?_
  | with_reducible refine z_seq ?_
  | with_reducible refine z_asg ?_
  | with_reducible refine z_asgG ?_
  | with_reducible refine z_call ?_
  | with_reducible refine z_sq0 ?_
  | with_reducible refine z_sq1 ?_
  | with_reducible refine z_ifS ?_
  | with_reducible refine z_test ?_
  | with_reducible refine z_tb ?_
  | with_reducible refine z_bl ?_
  | with_reducible refine z_blI ?_
  | with_reducible refine z_ret ?_
  | with_reducible refine z_rt ?_
  | with_reducible refine z_T ?_
  | with_reducible refine z_F ?_
  | with_reducible refine z_add ?_
  | with_reducible refine z_sub ?_
  | with_reducible refine z_neg ?_
  | with_reducible refine z_un ?_
  | with_reducible refine z_eqI ?_
  | with_reducible refine z_neI ?_
  | with_reducible refine z_lt ?_
  | with_reducible refine z_le ?_
  | with_reducible refine z_gt ?_
  | with_reducible refine z_ge ?_
  | with_reducible refine z_not ?_
  | with_reducible refine z_and ?_
  | with_reducible refine z_or ?_
  | with_reducible refine z_andV ?_
  | with_reducible refine z_orV ?_
  | with_reducible refine z_notV ?_
  | with_reducible refine z_if ?_
  | with_reducible refine z_cb ?_
  | with_reducible refine z_int1 ?_
  | with_reducible refine z_intb ?_
  | with_reducible refine z_abs ?_
  | with_reducible refine z_gcd ?_
  | with_reducible refine z_isi_ii ?_
  | with_reducible refine z_isi_ib ?_
  | with_reducible refine z_next ?_
  | with_reducible refine z_drop ?_
  | with_reducible refine z_par ?_
  | with_reducible refine z_par2 ?_
  | with_reducible refine z_tupN ?_
  | with_reducible refine z_lstN ?_
  | ((with_reducible refine' z_nt ?zl1 ?_); (case zl1 => exact Nat.le_of_ble_eq_true rfl); intro p H' hp hs he)
  | ((with_reducible refine' z_gtup ?zl1 ?zl2 ?_); (case zl1 => walk_at "up"); (case zl2 => exact rfl))
  | with_reducible refine z_bk ?_
  | with_reducible refine z_ct ?_
  | with_reducible refine z_break ?_
  | with_reducible refine z_cont ?_
  | with_reducible refine z_retN ?_
  | with_reducible refine z_nn ?_
  | with_reducible refine z_mk ?_
  | with_reducible refine z_gn ?_
  | with_reducible refine z_gcons ?_
  | with_reducible refine z_gnil ?_
  | with_reducible refine z_mt ?_
  | with_reducible refine z_mko ?_
  | with_reducible refine z_for2 ?_
  | with_reducible refine z_ownI ?_
  | ((with_reducible refine' z_lenL ?zl1 ?_); (case zl1 => walk_at "up"))
  | ((with_reducible refine' z_ixT ?zl1 ?zl2 ?_); (case zl1 => walk_at "up"); (case zl2 => exact rfl))
  | ((with_reducible refine' z_mulL ?zl1 ?zl2 ?_); (case zl1 => omega); (case zl2 => omega))
  | ((with_reducible refine' z_mulR ?zl1 ?zl2 ?_); (case zl1 => omega); (case zl2 => omega))
  | ((with_reducible refine' z_divS ?zl1 ?zl2 ?_); (case zl1 => omega); (case zl2 => omega))
  | ((with_reducible refine' z_mulW ?zl1 ?zl2 ?zl3 ?zl4 ?_); (case zl1 => omega); (case zl2 => omega); (case zl3 => omega); (case zl4 => omega))
  | ((with_reducible refine' z_divW ?zl1 ?zl2 ?_); (case zl1 => omega); (case zl2 => omega)))
local macro_rules | `(tactic| walk_at "zz") => `(tactic| repeat (walk_at "z"))
local macro_rules | `(tactic| walk_at "z") => `(tactic| with_reducible refine z_lstN ?_)
local macro_rules | `(tactic| walk_at "z") => `(tactic| with_reducible refine z_p6 ?_)
local macro_rules | `(tactic| walk_at "z") => `(tactic| with_reducible refine z_p12 ?_)
local macro_rules | `(tactic| walk_at "z") => `(tactic| with_reducible refine z_p13 ?_)
local macro_rules | `(tactic| walk_at "z") => `(tactic| with_reducible refine z_calln ?_)
local macro_rules | `(tactic| walk_at "z") => `(tactic| with_reducible refine z_xfS ?_)
local macro_rules | `(tactic| walk_at "z") => `(tactic| with_reducible refine z_lcS ?_)
local macro_rules | `(tactic| walk_at "z") => `(tactic| with_reducible refine z_lcRS ?_)
local macro_rules | `(tactic| walk_at "z") => `(tactic| with_reducible refine z_lcZS ?_)
local macro_rules | `(tactic| walk_at "z") => `(tactic| with_reducible refine z_foS ?_)
local macro_rules | `(tactic| walk_at "z") => `(tactic| with_reducible refine z_for1 ?_)
local macro_rules | `(tactic| walk_at "z") => `(tactic| with_reducible refine z_tsl ?_)
local macro_rules | `(tactic| walk_at "z") => `(tactic| with_reducible refine z_np ?_)
local macro_rules | `(tactic| walk_at "z") => `(tactic| with_reducible refine z_pt ?_)
local macro_rules | `(tactic| walk_at "z") => `(tactic| with_reducible refine z_pti ?_)
local macro_rules | `(tactic| walk_at "z") => `(tactic| with_reducible refine z_catI ?_)
local macro_rules | `(tactic| walk_at "z") => `(tactic| with_reducible refine z_isNI ?_)
local macro_rules | `(tactic| walk_at "z") => `(tactic| with_reducible refine z_isNN ?_)
local macro_rules | `(tactic| walk_at "z") => `(tactic| with_reducible refine z_notNI ?_)
local macro_rules | `(tactic| walk_at "z") => `(tactic| with_reducible refine z_notNN ?_)
local macro_rules | `(tactic| walk_at "z") => `(tactic| with_reducible refine z_gsub ?_)
local macro_rules | `(tactic| walk_at "z") => `(tactic| with_reducible refine z_isNb ?_)
local macro_rules | `(tactic| walk_at "z") => `(tactic| with_reducible refine z_notNb ?_)
local macro_rules | `(tactic| walk_at "z") => `(tactic| ((with_reducible refine' z_nlR ?zl1 ?_); (case zl1 => exact Nat.le_of_ble_eq_true rfl); intro p H' hp hs he))
local macro_rules | `(tactic| walk_at "z") => `(tactic| ((with_reducible refine' z_repR ?zl1 ?zl2 ?_); (case zl1 => omega); (case zl2 => omega)))
local macro_rules | `(tactic| walk_at "z") => `(tactic| ((with_reducible refine' z_repL ?zl1 ?zl2 ?_); (case zl1 => omega); (case zl2 => omega)))
local macro_rules | `(tactic| walk_at "z") => `(tactic| ((with_reducible refine' z_lenLst ?zl1 ?_); (case zl1 => walk_at "up")))
local macro_rules | `(tactic| walk_at "z") => `(tactic| ((with_reducible refine' z_cat ?zl1 ?zl2 ?zl3 ?_); (case zl1 => walk_at "up"); (case zl2 => walk_at "up"); (case zl3 => (simp only [List.length_map, List.length_cons, List.length_nil, List.length_append, List.length_replicate]; omega)); intro p H' hp hs he))
local macro_rules | `(tactic| walk_at "z") => `(tactic| with_reducible refine z_sfl ?_)
local macro_rules | `(tactic| walk_at "z") => `(tactic| with_reducible refine z_lcES ?_)
local macro_rules | `(tactic| walk_at "z") => `(tactic| with_reducible refine z_lcMS ?_)
local macro_rules | `(tactic| walk_at "z") => `(tactic| with_reducible refine z_foES ?_)
local macro_rules | `(tactic| walk_at "z") => `(tactic| with_reducible refine z_fo3S ?_)
local macro_rules | `(tactic| walk_at "z") => `(tactic| with_reducible refine z_sta ?_)
local macro_rules | `(tactic| walk_at "z") => `(tactic| with_reducible refine z_sta1 ?_)
local macro_rules | `(tactic| walk_at "z") => `(tactic| with_reducible refine z_lcTS ?_)
local macro_rules | `(tactic| walk_at "z") => `(tactic| with_reducible refine z_foTS ?_)
local macro_rules | `(tactic| walk_at "z") => `(tactic| with_reducible refine z_revTS ?_)
local macro_rules | `(tactic| walk_at "z") => `(tactic| with_reducible refine z_max2 ?_)
local macro_rules | `(tactic| walk_at "z") => `(tactic| ((with_reducible refine' z_fldt ?zc1 ?zc2 ?zl1 ?zl2 ?_); (case zc1 => exact Lw.cl_Ratio (by assumption)); (case zc2 => exact Lw.na_Ratio_top (by assumption)); (case zl1 => exact rfl); (case zl2 => walk_at "up")))
local macro_rules | `(tactic| walk_at "z") => `(tactic| ((with_reducible refine' z_fldb ?zc1 ?zc2 ?zl1 ?zl2 ?_); (case zc1 => exact Lw.cl_Ratio (by assumption)); (case zc2 => exact Lw.na_Ratio_bottom (by assumption)); (case zl1 => exact rfl); (case zl2 => walk_at "up")))
local macro_rules | `(tactic| walk_at "z") => `(tactic| ((with_reducible refine' u_mtF ?zl1 ?_); (case zl1 => walk_at "up")))
local macro_rules | `(tactic| walk_at "z") => `(tactic| with_reducible refine z_oaI ?_)
local macro_rules | `(tactic| walk_at "z") => `(tactic| with_reducible refine z_osI ?_)
local macro_rules | `(tactic| walk_at "z") => `(tactic| with_reducible refine z_asg2S ?_)
local macro_rules | `(tactic| walk_at "z") => `(tactic| ((with_reducible refine' z_ixLst ?zl1 ?zl2 ?_); (case zl1 => walk_at "up"); (case zl2 => exact rfl)))
local macro_rules | `(tactic| walk_at "z") => `(tactic| ((with_reducible refine' u_draw ?zl1 ?zl2 ?zl3 ?zl4 ?zl5 ?_); (case zl1 => walk_at "up"); (case zl2 => omega); (case zl3 => omega); (case zl4 => omega); (case zl5 => omega); intro r r0 r1))
local macro_rules | `(tactic| walk_at "z") => `(tactic| ((with_reducible refine' u_cell ?zl1 ?zl2 ?_); (case zl1 => walk_at "up"); (case zl2 => omega); intro c))
local macro_rules | `(tactic| walk_at "z") => `(tactic| with_reducible refine z_eqB ?_)
local macro_rules | `(tactic| walk_at "z") => `(tactic| with_reducible refine z_isB ?_)
local macro_rules | `(tactic| walk_at "z") => `(tactic| with_reducible refine u_whole1 ?_)
local macro_rules | `(tactic| walk_at "z") => `(tactic| ((with_reducible refine' u_mtSC ?zl1 ?_); (case zl1 => walk_at "up")))
local macro_rules | `(tactic| walk_at "z") => `(tactic| with_reducible refine z_lcR2S ?_)
local macro_rules | `(tactic| walk_at "z") => `(tactic| with_reducible refine z_p30 ?_)
local macro_rules | `(tactic| walk_at "z") => `(tactic| with_reducible refine z_min2 ?_)
theorem same63g {H H1 H2 : Hp} (h : Same H1 H2) (e : Same H H1) : Same H H2 := e.trans h
local macro_rules | `(tactic| walk_at "sm") => `(tactic| first
  | assumption
  | exact fun _ _ h => h
  | (refine' same63g (by assumption) ?zsm; case zsm => walk_at "sm"))
local macro_rules | `(tactic| walk_at "up") => `(tactic| first
  | assumption
  | (with_reducible refine' IsR.mono (by assumption) ?zup; case zup => walk_at "up")
  | (with_reducible refine' Fr.mono (by assumption) ?zup; case zup => walk_at "up")
  | (with_reducible refine' FS.mono (by assumption) ?zup; case zup => walk_at "up")
  | (with_reducible refine' Sq2.mono (by assumption) ?zup; case zup => walk_at "up")
  | (with_reducible refine' Same.at (by assumption) ?zup; case zup => walk_at "up")
  | (with_reducible refine' IsPool.mono (by assumption) ?zup; case zup => walk_at "up")
  | (with_reducible refine' IsSC.mono (by assumption) ?zup; case zup => walk_at "up")
  | (with_reducible refine' QP.mono (by assumption) ?zup; case zup => walk_at "up")
  | (with_reducible refine' IsW.mono (by assumption) ?zup; case zup => walk_at "up")
  | (with_reducible refine' FB.mono (by assumption) ?zup; case zup => walk_at "up")
  | fail)
section
variable {P : Program} {w : World} {K : Frag} {mg : Str → Option Value} {base : Heap}
theorem ok_law (L : Lw K mg) {fd : FuncData} (F : FunD K "law" "law" (defArgs s_law) (defBody s_law) (defScope s_law) (df_law.dvs K) (df_law.kws K) (He.fAd K ("law", none)) fd) : FnOk P w K mg base (L2N.CX P w) 11 (He.fAd K ("law", none)) fd (["script"] : List Str) (sp1 (fs_law K)) := by
  refine FunD.ok F sc_law len1 (fun cdv A outer s H vs Q E hr h => ?_)
  obtain ⟨a, rfl, h⟩ := h
  refine ⟨_, (pss_cons (ps_set (i := 1) sc_law.nd rfl (by first | exact Or.inl rfl | exact Or.inr rfl) (pe_slice (slK rSlL (K := K) rfl sl_list) (pv 0) po_none (po_some pe_int)))
    (pss_cons (ps_set (i := 2) sc_law.nd rfl (by first | exact Or.inl rfl | exact Or.inr rfl) (pe_c (c_law_many (K := K) L) hr (by decide) (L2N.takes_of rfl rfl rfl rfl) (pa_cons (pv 1) pa_nil)))
    (pss_cons (ps_set (i := 3) sc_law.nd rfl (by first | exact Or.inl rfl | exact Or.inr rfl) (pe_op o_cat pe_int (pe_c (c_law_draw (K := K) L) hr (by decide) (L2N.takes_of rfl rfl rfl rfl) (pa_cons (pv 1) (pa_cons pe_int (pa_cons pe_int (pa_cons pe_int pa_nil)))))))
    (pss_cons (ps_setLc (i := 4) (own := [("k", 5)]) (g := (gName 5)) (tt := tYes) rfl sc_law.nd rfl rfl (sw_true rfl rfl rfl (by decide +kernel)) (pi_range1 (by rfl) L.f_range (pa_cons (pv 2) pa_nil)) (blkOk_by (N := ["script", "cells", "m", "low", "drawn", "k", "tops", "x", "scale", "numbers", "over", "given", "start", "i", "j", "amount", "step", "found"]) (sc := defScope s_law) (by decide +kernel)) (fun _ _ _ _ _ => pg_name (i := 5) sc_law.nd rfl (Or.inl rfl)) (fun _ _ _ _ _ => pts_nil) (fun _ _ _ _ _ => (pe_c (c_law_draw (K := K) L) hr (by decide) takesF (pa_cons (pv 1) (pa_cons (pe_op o_cat pe_int (pe_op o_mod (pv 5) pe_int)) (pa_cons (pe_op o_cat pe_int (pe_op o_div (pv 5) pe_int)) (pa_cons pe_int pa_nil)))))))
    (pss_cons (ps_setLc (i := 6) (own := [("x", 7)]) (g := (gName 7)) (tt := tYes) rfl sc_law.nd rfl rfl (sw_true rfl rfl rfl (by decide +kernel)) (pi_listK (K := K) rfl (pv 4)) (blkOk_by (N := ["script", "cells", "m", "low", "drawn", "k", "tops", "x", "scale", "numbers", "over", "given", "start", "i", "j", "amount", "step", "found"]) (sc := defScope s_law) (by decide +kernel)) (fun _ _ _ _ _ => pg_name (i := 7) sc_law.nd rfl (Or.inl rfl)) (fun _ _ _ _ _ => pts_nil) (fun _ _ _ _ _ => (pe_callB (o_max2 rfl) (by rfl) L.f_max (by decide +kernel) (pa_cons pe_int (pa_cons (pe_op o_sub (pv 7) pe_int) pa_nil)))))
    (pss_cons (ps_set (i := 8) sc_law.nd rfl (by first | exact Or.inl rfl | exact Or.inr rfl) (pe_ix (ix_seqK (K := K) rfl) (pe_lst (pa_cons pe_int (pa_cons pe_int (pa_cons (pe_op o_pow pe_int pe_int) pa_nil)))) (pe_c (c_law_draw (K := K) L) hr (by decide) (L2N.takes_of rfl rfl rfl rfl) (pa_cons (pv 1) (pa_cons pe_int (pa_cons pe_int (pa_cons pe_int pa_nil))))) (fun _ _ => rfl)))
    (pss_cons (ps_setLc (i := 9) (own := [("k", 5)]) (g := (gName 5)) (tt := tYes) rfl sc_law.nd rfl rfl (sw_true rfl rfl rfl (by decide +kernel)) (pi_range1 (by rfl) L.f_range (pa_cons pe_int pa_nil)) (blkOk_by (N := ["script", "cells", "m", "low", "drawn", "k", "tops", "x", "scale", "numbers", "over", "given", "start", "i", "j", "amount", "step", "found"]) (sc := defScope s_law) (by decide +kernel)) (fun _ _ _ _ _ => pg_name (i := 5) sc_law.nd rfl (Or.inl rfl)) (fun _ _ _ _ _ => pts_nil) (fun _ _ _ _ _ => (pe_op o_rep (pv 8) (pe_op o_sub (pe_c (c_law_draw (K := K) L) hr (by decide) takesF (pa_cons (pv 1) (pa_cons (pe_op o_cat pe_int (pv 5)) (pa_cons pe_int (pa_cons pe_int pa_nil))))) pe_int))))
    (pss_cons (ps_set (i := 10) sc_law.nd rfl (by first | exact Or.inl rfl | exact Or.inr rfl) (pe_op o_cat pe_int (pe_c (c_law_draw (K := K) L) hr (by decide) (L2N.takes_of rfl rfl rfl rfl) (pa_cons (pv 1) (pa_cons pe_int (pa_cons pe_int (pa_cons pe_int pa_nil)))))))
    (pss_cons (ps_set (i := 11) sc_law.nd rfl (by first | exact Or.inl rfl | exact Or.inr rfl) (pe_c (c_law_shares (K := K) L) hr (by decide) (L2N.takes_of rfl rfl rfl rfl) (pa_cons (pv 6) (pa_cons (pv 3) pa_nil))))
    (pss_cons (ps_set (i := 12) sc_law.nd rfl (by first | exact Or.inl rfl | exact Or.inr rfl) (pe_c (c_law_six (K := K) L) hr (by decide) (L2N.takes_of rfl rfl rfl rfl) (pa_cons (pv 9) (pa_cons (pv 6) pa_nil))))
    (pss_cons (ps_if (pt_not (pt_val (pe_c (c_law_value (K := K) L) hr (by decide) (L2N.takes_of rfl rfl rfl rfl) (pa_cons (pv 9) (pa_cons (pv 10) (pa_cons (pe_callTy (callK rList1 (K := K) rfl o_list1) (by rfl) L.f_list (by decide +kernel) (pa_cons (pv 11) pa_nil)) (pa_cons (pv 6) (pa_cons (pv 3) pa_nil)))))))) (pss_one (ps_ret pe_bl)) pss_nil)
    (pss_cons (ps_if (pt_not (pt_val (pe_c (c_law_value (K := K) L) hr (by decide) (L2N.takes_of rfl rfl rfl rfl) (pa_cons (pv 9) (pa_cons (pv 10) (pa_cons (pe_callTy (callK rTup1 (K := K) rfl call_tuple_of) (by rfl) L.f_tuple (by decide +kernel) (pa_cons (pv 11) pa_nil)) (pa_cons (pv 6) (pa_cons (pv 3) pa_nil)))))))) (pss_one (ps_ret pe_bl)) pss_nil)
    (pss_cons (ps_if (pt_not (pt_val (pe_c (c_law_value (K := K) L) hr (by decide) (L2N.takes_of rfl rfl rfl rfl) (pa_cons (pv 9) (pa_cons (pv 10) (pa_cons (pe_slice (slK rSlL (K := K) rfl sl_list) (pv 11) po_none (po_some pe_int)) (pa_cons (pe_slice (slK rSlL (K := K) rfl sl_list) (pv 6) po_none (po_some pe_int)) (pa_cons (pv 3) pa_nil)))))))) (pss_one (ps_ret pe_bl)) pss_nil)
    (pss_cons (ps_if (pt_not (pt_val (pe_c (c_law_claims (K := K) L) hr (by decide) (L2N.takes_of rfl rfl rfl rfl) (pa_cons (pv 9) (pa_cons (pv 10) (pa_cons (pv 2) (pa_cons (pv 12) pa_nil))))))) (pss_one (ps_ret pe_bl)) pss_nil)
    (pss_cons (ps_set (i := 13) sc_law.nd rfl (by first | exact Or.inl rfl | exact Or.inr rfl) (pe_c (c_law_draw (K := K) L) hr (by decide) (L2N.takes_of rfl rfl rfl rfl) (pa_cons (pv 1) (pa_cons pe_int (pa_cons pe_int (pa_cons (pv 2) pa_nil))))))
    (pss_cons (ps_set (i := 14) sc_law.nd rfl (by first | exact Or.inl rfl | exact Or.inr rfl) (pe_op o_mod (pe_callTy o_int1 (by rfl) L.f_int (by decide +kernel) (pa_cons (pe_op o_cat (pe_op o_cat (pv 13) pe_int) (pe_c (c_law_draw (K := K) L) hr (by decide) (L2N.takes_of rfl rfl rfl rfl) (pa_cons (pv 1) (pa_cons pe_int (pa_cons (pv 2) (pa_cons (pe_op o_sub (pv 2) pe_int) pa_nil)))))) pa_nil)) (pv 2)))
    (pss_cons (ps_if (pt_not (pt_val (pe_c (c_law_places (K := K) L) hr (by decide) (L2N.takes_of rfl rfl rfl rfl) (pa_cons (pv 11) (pa_cons (pv 13) (pa_cons (pv 14) pa_nil)))))) (pss_one (ps_ret pe_bl)) pss_nil)
    (pss_cons (ps_set (i := 15) sc_law.nd rfl (by first | exact Or.inl rfl | exact Or.inr rfl) (pe_op o_cat pe_int (pe_c (c_law_draw (K := K) L) hr (by decide) (L2N.takes_of rfl rfl rfl rfl) (pa_cons (pv 1) (pa_cons pe_int (pa_cons pe_int (pa_cons pe_int pa_nil)))))))
    (pss_cons (ps_if (pt_not (pt_val (pe_c (c_law_refusals (K := K) L) hr (by decide) (L2N.takes_of rfl rfl rfl rfl) (pa_cons (pv 6) (pa_cons (pv 3) (pa_cons (pe_callB (o_min2 rfl) (by rfl) L.f_min (by decide +kernel) (pa_cons (pv 13) (pa_cons (pv 14) pa_nil))) (pa_cons (pe_callB (o_max2 rfl) (by rfl) L.f_max (by decide +kernel) (pa_cons (pv 13) (pa_cons (pv 14) pa_nil))) (pa_cons (pv 15) pa_nil)))))))) (pss_one (ps_ret pe_bl)) pss_nil)
    (pss_cons (ps_for (passes_of rfl) rfl (pi_range1 (by rfl) L.f_range (pa_cons (pe_op o_cat pe_int (pe_op o_rep pe_int (pe_callTy o_int1 (by rfl) L.f_int (by decide +kernel) (pa_cons (pe_cmpR o_lt (pv 2) pe_int (nomark _)) pa_nil)))) pa_nil)) (pg_name (i := 16) sc_law.nd rfl (by first | exact Or.inl rfl | exact Or.inr rfl)) (pss_cons (ps_set (i := 17) sc_law.nd rfl (by first | exact Or.inl rfl | exact Or.inr rfl) (pe_c (c_law_step (K := K) L) hr (by decide) (L2N.takes_of rfl rfl rfl rfl) (pa_cons (pv 9) (pa_cons (pv 10) (pa_cons (pv 11) (pa_cons (pv 6) (pa_cons (pv 3) (pa_cons (pv 13) (pa_cons (pv 14) pa_nil)))))))))
    (pss_cons (ps_if (pt_cmpR o_isN (pv 17) pe_non (nomark _)) (pss_one (ps_ret pe_bl)) pss_nil)
    (pss_cons (ps_set (i := 11) sc_law.nd rfl (by first | exact Or.inl rfl | exact Or.inr rfl) (pe_ix (ix_seqK (K := K) rfl) (pv 17) pe_int (fun _ _ => rfl)))
    (pss_cons (ps_set (i := 6) sc_law.nd rfl (by first | exact Or.inl rfl | exact Or.inr rfl) (pe_ix (ix_seqK (K := K) rfl) (pv 17) pe_int (fun _ _ => rfl)))
    (pss_cons (ps_set (i := 3) sc_law.nd rfl (by first | exact Or.inl rfl | exact Or.inr rfl) (pe_op o_rep pe_int (pv 3)))
    (pss_cons (ps_set (i := 13) sc_law.nd rfl (by first | exact Or.inl rfl | exact Or.inr rfl) (pe_c (c_law_draw (K := K) L) hr (by decide) (L2N.takes_of rfl rfl rfl rfl) (pa_cons (pv 1) (pa_cons (pe_op o_cat pe_int (pv 16)) (pa_cons pe_int (pa_cons (pv 2) pa_nil))))))
    (pss_cons (ps_set (i := 14) sc_law.nd rfl (by first | exact Or.inl rfl | exact Or.inr rfl) (pe_op o_mod (pe_callTy o_int1 (by rfl) L.f_int (by decide +kernel) (pa_cons (pe_op o_cat (pe_op o_cat (pv 13) pe_int) (pe_c (c_law_draw (K := K) L) hr (by decide) (L2N.takes_of rfl rfl rfl rfl) (pa_cons (pv 1) (pa_cons (pe_op o_cat pe_int (pv 16)) (pa_cons (pv 2) (pa_cons (pe_op o_sub (pv 2) pe_int) pa_nil)))))) pa_nil)) (pv 2)))
    (pss_one (ps_if (PW.pt (pw_and (pt_cmpR o_lt (pv 12) pe_int (nomark _)) (pw_and1 (pt_cmpR o_ge (pe_c (c_law_six (K := K) L) hr (by decide) (L2N.takes_of rfl rfl rfl rfl) (pa_cons (pv 9) (pa_cons (pv 6) pa_nil))) pe_int (nomark _))))) (pss_one (ps_ret pe_bl)) pss_nil))))))))))
    (pss_one (ps_ret pe_bl)))))))))))))))))))))), ?_⟩
  rw [show L2.start (["script", "cells", "m", "low", "drawn", "k", "tops", "x", "scale", "numbers", "over", "given", "start", "i", "j", "amount", "step", "found"] : List Str) [a] = [some a, none, none, none, none, none, none, none, none, none, none, none, none, none, none, none, none, none] from rfl]
  obtain ⟨p0, ns0, rfl, hS0, hl0, fin⟩ := h
  try dsimp only [List.set]
  walk_at "zz"
  refine ⟨p0, _, rfl, hS0, fun c hc => ?_⟩
  rw [cut63 hl0]
  have hp : IsPool (upd H c (.lst (ns0.map V.int))) c := ⟨ns0, upd_same⟩
  generalize upd H c (.lst (ns0.map V.int)) = H0 at *
  try dsimp only [List.set]
  walk_at "zz"
  refine ⟨_, rfl, c, rfl, hp, fun m m1 m2 => ?_⟩
  try dsimp only [List.set]
  walk_at "zz"
  rename_i lw0 lw1 lw2
  obtain ⟨low, el⟩ : ∃ low, low = 1 + lw0 := ⟨_, rfl⟩
  rw [← el]
  have l1 : 1 ≤ low := by omega
  have l6 : low ≤ 6 := by omega
  clear el lw1 lw2
  have bl : Bits 3 low := Bits.small (n := 3) (by show -(8 : Int) < low; omega) (by show low < (8 : Int); omega)
  refine z_lcRP (n := m) (fun _ x _ => ∃ v : Int, x = V.int v ∧ (0 ≤ v ∧ v ≤ 15)) (fun _ _ _ _ _ h => h) (by omega) (by omega) (fun i H1 N1 hi s1 cc => ⟨rfl, ?_⟩) (fun D HD zD sD hlD => ?_)
  · have hp1 := hp.mono s1
    try dsimp only [List.set]
    walk_at "zz"
    refine z_mod (by decide) ?_
    try dsimp only [List.set]
    walk_at "zz"
    exact cc _ _ (fun _ _ h => h) ⟨_, rfl, by omega, by omega⟩
  obtain ⟨xs0, e1, e2, e3⟩ := hlD
  obtain ⟨ns, rfl, hns⟩ := ints_of (R := fun v => 0 ≤ v ∧ v ≤ 15) xs0 e3
  have e2 : ns.length = m.toNat := by rw [← e2, List.length_map]
  have hpD := hp.mono sD
  try dsimp only [List.set]
  walk_at "zz"
  refine z_lcI (fun x => V.int (max 0 (x - 3))) e1 (by omega) (fun x H1 N1 hx s1 cc => ⟨rfl, ?_⟩) (fun q H2 zq s2 hq => ?_)
  · try dsimp only [List.set]
    walk_at "zz"
    exact cc _ (fun _ _ h => h)
  have em : ns.map (fun x => V.int (max 0 (x - 3))) = (ns.map fun x => max 0 (x - 3)).map V.int := by rw [List.map_map] <;> rfl
  rw [em] at hq
  obtain ⟨ts, ets⟩ : ∃ ts, ts = ns.map fun x => max 0 (x - 3) := ⟨_, rfl⟩
  rw [← ets] at hq
  have lts : ts.length = m.toNat := by rw [ets, List.length_map, e2]
  have hts : ∀ x, x ∈ ts → 0 ≤ x ∧ x ≤ 12 := fun x hx => by
    rw [ets] at hx
    obtain ⟨y, hy, rfl⟩ := List.mem_map.mp hx
    have := hns y hy
    omega
  have nn : ∀ k, 0 ≤ cf ts k := fun k => (cf_mem hts ⟨by decide, by decide⟩ k).1
  have bt : ∀ k, Bits 4 (cf ts k) := fun k => by
    have := cf_mem hts ⟨by decide, by decide⟩ k
    exact Bits.small (n := 4) (by show -(16 : Int) < cf ts k; omega) (by show cf ts k < (16 : Int); omega)
  clear ets em hns e1 e3
  have hp2 := hpD.mono s2
  try dsimp only [List.set]
  walk_at "zz"
  rename_i lq Hq zlq slq elq sc sc0 sc1
  obtain ⟨scale, se1, se2, ese⟩ := at3 (s := sc) (by omega) (by omega)
  refine z_ixLst elq ese ?_
  have bsc : Bits 101 scale := Bits.le (a := 101) (j := 1000000000000000000000000000000) (by unfold Bits; decide) (by omega)
  have hpq := hp2.mono slq
  have hqq := slq _ _ hq
  try dsimp only [List.set]
  walk_at "zz"
  refine z_lcRP (n := 3) (fun _ x _ => ∃ v : Int, x = V.int v ∧ Bits 110 v) (fun _ _ _ _ _ h => h) (by decide) (by decide) (fun i H1 N1 hi s1 cc => ⟨rfl, ?_⟩) (fun p Hp' zp sp hlp => ?_)
  · have hp1 := hpq.mono s1
    try dsimp only [List.set]
    walk_at "zz"
    rename_i rr rr0 rr1
    exact cc (V.int (scale * (rr - 20))) _ (fun _ _ h => h) ⟨scale * (rr - 20), rfl, Bits.mul (a := 101) (b := 9) bsc (sm200 (by omega) (by omega) (by decide))⟩
  obtain ⟨xp, f1, f2, f3⟩ := hlp
  obtain ⟨np, rfl, hnp⟩ := ints_of (R := fun v => Bits 110 v) xp f3
  have f2 : (np.map V.int).length = 3 := f2
  rw [List.length_map] at f2
  obtain ⟨A', B', C', rfl⟩ : ∃ a b c, np = [a, b, c] := by
    match np, f2 with
    | [a, b, c], _ => exact ⟨a, b, c, rfl⟩
  have bA : Bits 110 A' := hnp _ (by simp)
  have bB : Bits 110 B' := hnp _ (by simp)
  have bC : Bits 110 C' := hnp _ (by simp)
  have f1 : Hp' p = some (.lst [.int A', .int B', .int C']) := f1
  clear hnp f3
  have hpp := hpq.mono sp
  have hqp := sp _ _ hqq
  try dsimp only [List.set]
  walk_at "zz"
  rename_i ow0 ow1 ow2
  obtain ⟨ov, eo⟩ : ∃ ov, ov = 1 + ow0 := ⟨_, rfl⟩
  rw [← eo]
  have o1 : 1 ≤ ov := by omega
  have o2 : ov ≤ 7 := by omega
  clear eo ow1 ow2
  refine ⟨_, _, rfl, q, ts, low, rfl, rfl, hqp, by omega, by omega, bl.up (by decide), fun g xs H3 zg s3 fg eg lg => ?_⟩
  have lx : xs.length = m.toNat := by omega
  have hp3 := hpp.mono s3
  have f13 := s3 _ _ f1
  have hq3 := s3 _ _ hqp
  try dsimp only [List.set]
  walk_at "zz"
  refine ⟨_, _, rfl, p, q, A', B', C', ts, rfl, rfl, f13, hq3, by omega, bA.up (by decide), bB.up (by decide), bC.up (by decide), fun k => (bt k).up (by decide), fun H4 s4 => ?_⟩
  obtain ⟨start, est⟩ : ∃ start, start = S63.six A' B' C' ts := ⟨_, rfl⟩
  rw [← est]
  have fg4 := fg.mono s4
  have eg4 := s4 _ _ eg
  try dsimp only [List.set]
  walk_at "zz"
  refine z_listL (SqL.of eg4) (fun g2 H5 zg2 s5 eg2 => ?_)
  have fg5 := fg4.mono s5
  have hq5 := s5 _ _ (s4 _ _ hq3)
  have f15 := s5 _ _ (s4 _ _ f13)
  try dsimp only [List.set]
  walk_at "zz"
  refine ⟨_, _, _, _, _, rfl, p, g2, q, A', B', C', ov, low, xs, cf ts, ts, rfl, rfl, rfl, rfl, rfl, f15, hq5, o1, o2, bA.up (by decide), bB.up (by decide), bC.up (by decide), ⟨.inl eg2, fg5.2⟩, by omega, by omega, by omega, fun k _ => rfl, fun k _ => nn k, fun k => (bt k).up (by decide), fun k => (bt k).up (by decide), by omega, bl.up (by decide), fun H6 s6 => ?_⟩
  have fg6 := fg5.mono s6
  have eg6 := s6 _ _ (s5 _ _ eg4)
  have hq6 := s6 _ _ hq5
  have f16 := s6 _ _ f15
  try dsimp only [List.set]
  walk_at "zz"
  refine z_tup1L eg6 (fun g3 H7 zg3 s7 eg3 => ?_)
  have fg7 := fg6.mono s7
  try dsimp only [List.set]
  walk_at "zz"
  refine ⟨_, _, _, _, _, rfl, p, g3, q, A', B', C', ov, low, xs, cf ts, ts, rfl, rfl, rfl, rfl, rfl, s7 _ _ f16, s7 _ _ hq6, o1, o2, bA.up (by decide), bB.up (by decide), bC.up (by decide), ⟨.inr eg3, fg7.2⟩, by omega, by omega, by omega, fun k _ => rfl, fun k _ => nn k, fun k => (bt k).up (by decide), fun k => (bt k).up (by decide), by omega, bl.up (by decide), fun H8 s8 => ?_⟩
  have fg8 := fg7.mono s8
  have eg8 := s8 _ _ (s7 _ _ eg6)
  have hq8 := s8 _ _ (s7 _ _ hq6)
  have f18 := s8 _ _ (s7 _ _ f16)
  have e1t : ∀ l : List V, cutV l none (some 1) = l.take 1 := fun l => cut_hi (n := 1)
  try dsimp only [List.set]
  walk_at "zz"
  refine z_sll eg8 (fun g4 H9 zg4 s9 eg4' => ?_)
  rw [e1t] at eg4'
  try dsimp only [List.set]
  walk_at "zz"
  refine z_sll (s9 _ _ hq8) (fun q4 Ha zq4 sa eq4 => ?_)
  rw [e1t, ← List.map_take] at eq4
  have fga := (fg8.mono s9).mono sa
  try dsimp only [List.set]
  walk_at "zz"
  refine ⟨_, _, _, _, _, rfl, p, g4, q4, A', B', C', ov, low, xs.take 1, cf ts, ts.take 1, rfl, rfl, rfl, rfl, rfl, sa _ _ (s9 _ _ f18), eq4, o1, o2, bA.up (by decide), bB.up (by decide), bC.up (by decide), ⟨.inl (sa _ _ eg4'), fun k x hx => ?_⟩, by rw [List.length_take, List.length_take]; omega, by rw [List.length_take]; omega, by rw [List.length_take]; omega, fun k hk => ?_, fun k _ => nn k, fun k => (bt k).up (by decide), fun k => ?_, by omega, bl.up (by decide), fun Hb sb => ?_⟩
  · refine fga.2 k x ?_
    rw [List.getElem?_take] at hx
    split at hx
    · exact hx
    · cases hx
  · rw [List.length_take] at hk
    rw [cf_take1, if_pos (by omega), show k = 0 by omega]
  · rw [cf_take1]
    split
    · exact (bt 0).up (by decide)
    · exact Bits.zero
  have s38 : Same H3 Hb := ((((((s4.trans s5).trans s6).trans s7).trans s8).trans s9).trans sa).trans sb
  have hpb := hp3.mono s38
  have f1b := s38 _ _ f13
  have hqb := s38 _ _ hq3
  have fgb := fg.mono s38
  have egb := s38 _ _ eg
  try dsimp only [List.set]
  walk_at "zz"
  refine ⟨_, _, _, _, rfl, p, A', B', C', ov, m, ts, rfl, rfl, rfl, by rw [est], f1b, o1, o2, m1, m2, bA.up (by decide), bB.up (by decide), bC.up (by decide), lts, fun x hx => (hts x hx).1, fun Hc sc' => ?_⟩
  have hpc := hpb.mono sc'
  have f1c := sc' _ _ f1b
  have hqc := sc' _ _ hqb
  have fgc := fgb.mono sc'
  have egc := sc' _ _ egb
  try dsimp only [List.set]
  walk_at "zz"
  rename_i i i0 i1 d d0 d1
  refine z_mod (by omega) ?_
  obtain ⟨j0, j1, jne⟩ := j_ne i0 i1 d0 d1
  generalize (i + 1 + d) % m = j at *
  try dsimp only [List.set]
  walk_at "zz"
  refine ⟨_, _, _, rfl, g, xs, cf ts, low, i, j, rfl, rfl, rfl, ⟨fgc, by omega, fun k => (bt k).up (by decide), bl.up (by decide)⟩, by omega, by omega, fun k _ => nn k, i0, by omega, j0, by omega, fun Hd sd => ?_⟩
  have hpd := hpc.mono sd
  have f1d := sd _ _ f1c
  have hqd := sd _ _ hqc
  have fgd := fgc.mono sd
  have egd := sd _ _ egc
  try dsimp only [List.set]
  walk_at "zz"
  rename_i aw aw0 aw1
  obtain ⟨am, ea⟩ : ∃ am, am = 1 + aw := ⟨_, rfl⟩
  rw [← ea]
  refine ⟨_, _, _, _, _, rfl, q, ts, low, min i j, max i j, am, rfl, rfl, rfl, rfl, rfl, hqd, by omega, by omega, nn, fun k => (bt k).up (by decide), l1, l6, by omega, by omega, by omega, by omega, by omega, fun He se => ?_⟩
  have hpe := hpd.mono se
  have f1e := se _ _ f1d
  have hqe := se _ _ hqd
  have fge := fgd.mono se
  have ege := se _ _ egd
  clear s38 s4 s5 s6 s7 s8 s9 sa sb sc' sd se hpb hpc hpd hp3 hpp hpq hp2 hpD hp f1 f13 f15 f16 f18 f1b f1c f1d hq hqq hqp hq3 hq5 hq6 hq8 hqb hqc hqd fg fg4 fg5 fg6 fg7 fg8 fga fgb fgc fgd eg eg4 eg6 eg8 egb egc egd
  try dsimp only [List.set]
  walk_at "zz"
  obtain ⟨nt, ent, nt0, nt5⟩ : ∃ nt : Int, nt = 2 + 3 * (if decide (m < 9) = true then 1 else 0) ∧ 0 ≤ nt ∧ nt ≤ 5 := ⟨_, rfl, by split <;> decide, by split <;> decide⟩
  rw [← ent]
  refine z_foR (by omega) (by omega) (fun s σ' H' => ∃ (low' : Int) (q' g' : Addr) (i' j' : Int) (x16 x17 : Option V) (xs' : List V) (ts' : List Int), σ' = SLot p0 c m low' D q' p scale ov g' start i' j' am x16 x17 ∧ IsPool H' c ∧ H' p = some (.lst [.int A', .int B', .int C']) ∧ H' q' = some (.lst (ts'.map V.int)) ∧ FS K H' g' xs' (cf ts') low' ∧ H' g' = some (.lst xs') ∧ xs'.length = ts'.length ∧ ts'.length = m.toNat ∧ (∀ k, 0 ≤ cf ts' k) ∧ (∀ k, Bits (4 + 3 * s) (cf ts' k)) ∧ 0 < low' ∧ Bits (3 + s) low' ∧ 0 ≤ i' ∧ i' < m ∧ 0 ≤ j' ∧ j' < m ∧ j' ≠ i' ∧ (start < 0 → S63.six A' B' C' ts' < 0)) ⟨low, q, g, i, j, none, none, xs, ts, rfl, hpe, f1e, hqe, fge, ege, by omega, lts, nn, bt, by omega, bl, i0, i1, j0, j1, jne, fun z => by rw [← est]; exact z⟩ ?_ ?_
  · rintro s σ' H' hs ⟨low', q', g', i', j', x16, x17, xs', ts', rfl, hp', f1', hq', fg', eg', lx', lt', nn', bt', l0', bl', i0', i1', j0', j1', jne', st'⟩
    have hs : s < 5 := by omega
    have ncg : c ≠ g' := pool_ne fg' eg' (by omega) hp'
    have npg : p ≠ g' := fg'.ne_ints (ts := [A', B', C']) eg' (by omega) f1'
    unfold SLot
    try dsimp only [List.set]
    walk_at "zz"
    refine ⟨_, _, _, _, _, _, _, rfl, p, g', q', A', B', C', ov, low', i', j', xs', ts', 4 + 3 * s, rfl, rfl, rfl, rfl, rfl, rfl, rfl, f1', hq', o1, o2, bA.up (by decide), bB.up (by decide), bC.up (by decide), fg', eg', lx', by omega, by omega, nn', bt', by omega, l0', bl'.up (by omega), i0', by omega, j0', by omega, jne', fun r l1' l2' H2 ys ts2 hb hr fl el1 el2 ly lt2 nn2 bt2 six2 => ?_⟩
    have hp2 : IsPool H2 c := hp'.elim fun ns e => ⟨ns, hb _ _ ncg e⟩
    have f12 := hb _ _ npg f1'
    try dsimp only [List.set]
    walk_at "zz"
    rename_i i2 i20 i21 d2 d20 d21
    refine z_mod (by omega) ?_
    obtain ⟨j20, j21, j2ne⟩ := j_ne i20 i21 d20 d21
    generalize (i2 + 1 + d2) % m = j2 at *
    have bt2' : ∀ k, Bits (4 + 3 * (s + 1)) (cf ts2 k) := fun k => (bt2 k).up (by omega)
    have bl2 : Bits (3 + (s + 1)) (2 * low') := bl'.dbl
    try dsimp only [List.set]
    walk_at "zz"
    refine z_d2 (fun cs => ?_) (fun cs => ?_)
    · have neg : S63.six A' B' C' ts2 < 0 := by
        have := st' cs
        omega
      try dsimp only [List.set]
      walk_at "zz"
      refine ⟨_, _, rfl, p, l2', A', B', C', ts2, rfl, rfl, f12, el2, by omega, bA.up (by decide), bB.up (by decide), bC.up (by decide), fun k => (bt2 k).up (by omega), fun H3 s3 => ?_⟩
      try dsimp only [List.set]
      walk_at "zz"
      refine z_dF (by omega) ?_
      try dsimp only [List.set]
      walk_at "zz"
      exact ⟨2 * low', l2', l1', i2, j2, _, _, ys, ts2, rfl, hp2.mono s3, s3 _ _ f12, s3 _ _ el2, fl.mono s3, s3 _ _ el1, ly, by omega, nn2, bt2', by omega, bl2, i20, i21, j20, j21, j2ne, fun _ => neg⟩
    · try dsimp only [List.set]
      walk_at "zz"
      exact ⟨2 * low', l2', l1', i2, j2, _, _, ys, ts2, rfl, hp2, f12, el2, fl, el1, ly, by omega, nn2, bt2', by omega, bl2, i20, i21, j20, j21, j2ne, fun z => absurd z cs⟩
  rintro σ' H' ⟨low', q', g', i', j', x16, x17, xs', ts', rfl, _⟩
  try dsimp only [List.set]
  walk_at "zz"
  exact fin _
end
end T
set_option maxHeartbeats 0
open PySem PySem.W PySem.Calls PyProof.Rows
theorem PySem.Challenge.cw_belownought_k63_exchanged_shares_holds : PySem.Challenge.rw_belownought_k63_exchanged_shares.Holds := by
  w_on; o_law
  refine HandSHeadRun.head_imp (r := T.R) (q := view T.R.prog [0, 65]) (H := T.hk) (ob := T.ob) (M := 12000) (loose := T.loose) (d := HandSHeadRun.topDef T.R.prog 65) (kwd := []) T.ob_eq T.run
    (by kernel_rfl) (by kernel_rfl) (by kernel_rfl) (by rfl) (by first | assumption | decide +kernel) (by decide +kernel) ⟨rfl, rfl, rfl, rfl, rfl, by decide +kernel⟩ ?hw ?hc
  case hw => w_witness2
  case hc =>
    refine L2.walk_ofE (l := PySem.Challenge.rw_belownought_k63_exchanged_shares) (n := 63) (k := 12) (x := "script") (CX := L2.CX0) rfl (by decide) (by kernel_rfl) ⟨rfl, by decide, by decide⟩ ?F (fun _ _ _ _ z => z)
    case F =>
      intro w mg fa h Y G hmg0
      obtain ⟨K, KX, c⟩ := Y
      have hmg : mg ("law" : PySem.Str) = some (.ref fa) := by
        have e : (HandSHeadRun.topDef T.R.prog 65).name = ("law" : PySem.Str) := by kernel_rfl
        rw [← e]
        exact hmg0
      have L : T.Lw K mg := ⟨⟨h, KX, G⟩, c⟩
      obtain ⟨fd, F⟩ := L.d_law
      have e := hmg.symm.trans L.g_law
      cases e
      refine ⟨K, fd, Z.sp1 (Z.fs_law K), KX, fun s v => F.bindsA (ps := ["script"]) (fun _ _ _ _ _ _ us hl => match us, hl with | [_], _ => rfl) s [v] rfl, fun H a ns hl _ hS => ⟨_, rfl, a, ns, rfl, hS, hl, fun _ => rfl⟩, fun base _ _ => ?_⟩
      exact Z.law_quiet (T.ok_law L F) (by decide)
