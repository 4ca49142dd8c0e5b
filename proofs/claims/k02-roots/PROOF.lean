import PyProof.Rows.All
import Wide.All
import OpenK.AllK
import Wide.FinOn
import HandS.ForMost
import HandS.Exc
import HandS.ExcOwn
import HandS.WordsExc
import HandS.CallSlots
import HandS.TryOnly
import HandS.TryMany
import HandS.Gcd
import HandS.ExcInit
import HandS.IsInst
import HandS.Defaults
import HandS.MakeKw
import HandS.Wide
import HandS.HotCalls
import HandS.ExcIs
import HandS.ExcField
import HandS.Flow
import HandS.Style
import HandS.Head0
import HandS.Head1
import HandS.Head2
import HandS.Head3
import HandS.HeadEnd
import HandS.HeadHook1
import HandS.HeadHook2
import KE.KExcIs
import HandS.Walk
import KE.KMathGC
import KE.GoesEnum
import HandS.HeadNt
import HandS.WideBits
import Flt.RightSqrt
import HandS.OwnEq
import HandS.Property
import HandS.ExcCtx
import PySem.Challenge.RW_belownought_k02_roots_of_fractions
set_option Elab.async false
set_option linter.all false
set_option maxRecDepth 100000
set_option maxHeartbeats 4000000
namespace Z
open PySem PySem.Spec PyProof.Rows L2
section
variable (P : Program) (w : World) (K : PySem.W.Frag) (mg : Str → Option Value) (base : Heap)
/-- a def of the module under its name, the defaults dvs filling up -/
structure Cal (k : Nat) (x : Str) (sp : Sp) (dvs : List V) : Prop where
  ex : ∃ (f : Addr) (fd : FuncData) (ps : List Str) (ds : List Value), FnOk P w K mg base (L2N.CX P w) k f fd ps sp ∧ mg x = some (.ref f) ∧ PySem.W.keepIn K (.ref f) = true ∧ Binds K fd ps ds ∧ Vals dvs ds
/-- .. called with keywords ks behind n values -/
structure CalK (k : Nat) (x : Str) (sp : Sp) (n : Nat) (ks : List Str) (gV : List V → List V → List V) : Prop where
  ex : ∃ (f : Addr) (fd : FuncData) (ps : List Str) (g : List Value → List Value → List Value), FnOk P w K mg base (L2N.CX P w) k f fd ps sp ∧ mg x = some (.ref f) ∧ PySem.W.keepIn K (.ref f) = true ∧ KBn K fd ps n ks g gV
/-- .. within an except suite -/
structure CalH (k : Nat) (x : Str) (sp : Sp) : Prop where
  ex : ∃ (f : Addr) (fd : FuncData) (ps : List Str), L2H.FnH P w K mg base (L2N.CX P w) k f fd ps sp ∧ mg x = some (.ref f) ∧ PySem.W.keepIn K (.ref f) = true ∧ Binds K fd ps []
/-- a method -/
structure Met (k : Nat) (C : Addr) (m : Str) (sp : Sp) (dvs : List V) : Prop where
  ex : ∃ (f : Addr) (fd : FuncData) (ps : List Str) (ds : List Value), Cls K C ∧ Meth K C m f ∧ FnOk P w K mg base (L2N.CX P w) k f fd ps sp ∧ Binds K fd ps ds ∧ Vals dvs ds
/-- a class made by its name -/
structure Mak (k : Nat) (x : Str) (C : Addr) (sp : Sp) (dvs : List V) : Prop where
  ex : ∃ (f : Addr) (fd : FuncData) (ps : List Str) (ds : List Value), Mk K C f ∧ FnOk P w K mg base (L2N.CX P w) k f fd ps sp ∧ mg x = some (.ref C) ∧ Binds K fd ps ds ∧ Vals dvs ds
/-- an exception class made by its name, its own __init__ keeping sp -/
structure MakX (k : Nat) (x : Str) (C : Addr) (sp : Sp) : Prop where
  ex : ∃ (f : Addr) (fd : FuncData) (ps : List Str), OexC K C ∧ PySem.W.findIn K (.ref C) "__init__" = some (some (.ref f)) ∧ PySem.W.typeIn K (.ref f) = some (.type "function") ∧ FnOk P w K mg base (L2N.CX P w) k f fd ps sp ∧ mg x = some (.ref C) ∧ Binds K fd ps []
end
/-- what a call lets out, wished for by W -/
def tCallW (sp : Sp) (dvs : List V) (W : WX) (t : TA) : TE := fun σ H Q => t σ H fun vs H1 => sp (vs ++ dvs) H1 Q (fun cls d H' => W cls d σ H')
def tMethW (C : Addr) (m : Str) (sp : Sp) (dvs : List V) (W : WX) (ta : TE) (t : TA) : TE := fun σ H Q => ta σ H fun x H1 => ∃ a dx fs, x = .ref a ∧ H1 a = some (.ins C dx fs) ∧ fs.lookup m = none ∧
  t σ H1 fun vs H2 => sp (x :: (vs ++ dvs)) H2 Q (fun cls d H' => W cls d σ H')
def tMakeW (C : Addr) (sp : Sp) (dvs : List V) (W : WX) (t : TA) : TE := fun σ H Q => t σ H fun vs H1 => ∀ x dx, H1 x = none → H1 dx = none → dx ≠ x →
  sp (.ref x :: (vs ++ dvs)) (upd (upd H1 dx (.own x)) x (.ins C dx [])) (fun v H2 => v = .non ∧ Q (.ref x) H2) (fun cls d H' => W cls d σ H')
section
variable {X : Cx} {k j : Nat} {f C : Addr} {fd : FuncData} {ps : List Str} {sp : Sp} {dvs : List V} {ds : List Value} {W : WX} {x m : Str} {p pos apos : Pos} {e o : Expr} {es : List Expr} {ta : TE} {t : TA}
theorem passW (tk : L2N.Takes X W) (σ : L2.St) : PassesAt (L2N.CX X.prog X.w) X σ (fun cls d H => W cls d σ H) := L2N.passAt tk σ
theorem pe_c (c : Cal X.prog X.w X.K X.mg X.base k x sp dvs) (hr : Room j X.A) (hk : k ≤ j) (tk : L2N.Takes X W) (ha : PA X (e :: es) t) (hg : Gl X x := by rfl)
    (hdb : (x == ("__debug__" : Str)) = false := by decide) (he : starEach (e :: es) X.env = (false, eval e X.env) :: starEach es X.env := by rfl) (hpl : (backTo pos (starEach es X.env)).any (·.1) = false := by rfl) :
    PE X (.Call (.Name x p) (e :: es) [] pos) (tCallW sp dvs W t) := by
  obtain ⟨f, fd, ps, ds, F, hm, kp, b, d⟩ := c.ex
  exact pe_callSD (E := fun σ cls d H => W cls d σ H) F (hr.mono hk) hg hm kp b d (passW tk) ha hdb he hpl
/-- .. keywords alone -/
theorem pe_ck0 {ks : List Str} {gV : List V → List V → List V} {E : XK} {kw : Keyword} {kws : List Keyword} {tw : TA} (c : CalK X.prog X.w X.K X.mg X.base k x sp 0 ks gV) (hr : Room j X.A) (hk : k ≤ j) (hx : Passes (L2N.CX X.prog X.w) X E) (hkw : PK X (kw :: kws) tw) (hg : Gl X x := by rfl)
    (hall : (backToKw pos (keywordEach (kw :: kws) X.env)).all (·.1.isSome) = true := by rfl) (hks : (backToKw pos (keywordEach (kw :: kws) X.env)).filterMap (·.1) = ks := by rfl)
    (hdb : (x == ("__debug__" : Str)) = false := by decide)
    (hpl : ((backTo pos (starEach [] X.env)).any (·.1) || (backToKw pos (keywordEach (kw :: kws) X.env)).any (·.1.isNone)) = false := by rfl) :
    PE X (.Call (.Name x p) [] (kw :: kws) pos) (tCallN 0 ks.length sp gV E tNil tw) := by
  obtain ⟨f, fd, ps, g, F, hm, kp, b⟩ := c.ex
  refine ⟨fun pi s0 sl H0 Q0 J0 h0 => ?_⟩
  have J := J0
  refine wpAny_Call_Name_kw (ld_glob J hg hm ?_ hdb)
  refine PySem.W.callWith_KW0 (h₀ := X.base) J.ok.mod.kin kp hall ?_ hpl
  refine thn (hkw.run pos pi s0 sl H0 _ J h0) fun ws s2 ⟨zs, H2, J2, rz, _, l2, q2⟩ => ⟨J2.kIn, ?_⟩
  rw [hks]
  exact run_fnN (vs := []) F (hr.mono hk) b hx J2 .nil rz rfl l2 q2
/-- making an instance, the wish at the slots -/
theorem run_mkS {pi : List (Addr × Obj)} {sl : L2.St} {H0 : Hp} {s0 : Shared} {Q0 : VK} {us : List Value} {xs : List V} {E0 : XK} (M : Mk X.K C f) (F : FnOk X.prog X.w X.K X.mg X.base (L2N.CX X.prog X.w) k f fd ps sp) (hr : Room (k + 1) X.A) (hb : Binds X.K fd ps ds) (hd : Vals dvs ds)
    (hx : PassesAt (L2N.CX X.prog X.w) X sl E0) (J : Inv X pi sl H0 s0) (r : Vals xs us)
    (h : ∀ y dy, H0 y = none → H0 dy = none → dy ≠ y → sp (.ref y :: (xs ++ dvs)) (upd (upd H0 dy (.own y)) y (.ins C dy [])) (fun v H2 => v = .non ∧ Q0 (.ref y) H2) E0) :
    wpAny (model X.prog X.w) X.A (call (.ref C) us) (EP X pi sl Q0) X.xe s0 := by
  have g1 := J.hok.fresh (Nat.le_succ s0.heap.objs.size)
  have g2 := J.hok.fresh (Nat.le_refl s0.heap.objs.size)
  have asked := h _ _ g1 g2 (Nat.ne_of_lt (Nat.lt_succ_self _))
  have J2 := Inv.made (C := C) J
  have rs : Vals (V.ref (s0.heap.objs.size + 1) :: (xs ++ dvs)) (Value.ref (s0.heap.objs.size + 1) :: (us ++ ds)) := .cons rfl (r.append hd)
  have sz : (Value.ref (s0.heap.objs.size + 1) :: us ++ ds).length = ps.length := rs.length.symm.trans (F.len _ _ _ _ asked)
  have bd := hb _ (Value.ref (s0.heap.objs.size + 1) :: us) J2.kIn sz
  have run := F.run (X.A.under (.builtin "type.__call__" ⟨.ref C :: us, []⟩)) X.stack _ _ ⟨Value.ref (s0.heap.objs.size + 1) :: us, []⟩ _ _ _ _ (hr.make C us []) (J2.env0.make C us []) bd rs asked
  refine wpAny_call (make_map (f := f) J.kIn M.makes M.init (beq_iff_eq.mp M.fn) (codeAny_mono run fun fin s1 hq => ?_))
  match fin, hq with
  | .error er, hq => exact hx pi _ _ er s1 J2 hq
  | .ok (.ret u), hq =>
    obtain ⟨v, H3, J3, rv, ev, q3⟩ := J2.after hq
    subst ev
    exact ⟨rv, ⟨V.ref (s0.heap.objs.size + 1), H3, J3, rfl, q3⟩⟩
theorem pe_mk (c : Mak X.prog X.w X.K X.mg X.base k x C sp dvs) (hr : Room j X.A) (hk : k + 1 ≤ j) (tk : L2N.Takes X W) (ha : PA X (e :: es) t) (hg : Gl X x := by rfl)
    (hdb : (x == ("__debug__" : Str)) = false := by decide) (he : starEach (e :: es) X.env = (false, eval e X.env) :: starEach es X.env := by rfl) (hpl : (backTo pos (starEach es X.env)).any (·.1) = false := by rfl) :
    PE X (.Call (.Name x p) (e :: es) [] pos) (tMakeW C sp dvs W t) := by
  obtain ⟨f, fd, ps, ds, M, F, hm, b, d⟩ := c.ex
  refine ⟨fun pi s0 sl H0 Q0 J h0 => ?_⟩
  refine wpAny_Call_Name_kw (ld_glob J hg hm ?_ hdb)
  refine PySem.W.callWith_K (h₀ := X.base) J.ok.mod.kin M.kp (thn (ha.run pos pi s0 sl H0 _ J h0) fun us s1 ⟨xs, H1, J1, r, q⟩ => ⟨J1.kIn, ?_⟩) he hpl
  exact run_mkS M F (hr.mono hk) b d (passW tk sl) J1 r q
theorem pe_mt0 {pl : Sem Bool} (c : Met X.prog X.w X.K X.mg X.base k C m sp dvs) (hr : Room j X.A) (hk : k ≤ j) (tk : L2N.Takes X W) (ho : PE X o ta)
    (ht : eval (.Call (.Attribute o m apos) [] [] pos) X.env = (do
      let ov ← eval o X.env; standAt apos.atName
      let (f, first) ← holding [ov] (getMethod ov m pl); callWith pos f first (backTo pos (starEach [] X.env)) (backToKw pos (keywordEach [] X.env))) := by rfl) :
    PE X (.Call (.Attribute o m apos) [] [] pos) (tMethW C m sp dvs W ta tNil) := by
  obtain ⟨f, fd, ps, ds, hc, hm, F, b, d⟩ := c.ex
  refine ⟨fun pi s0 sl H0 Q0 J h0 => ?_⟩
  refine PySem.W.methodCall_KW (pl := pl) (thn (ho.run pi s0 sl H0 _ J h0) fun u s1 ⟨y, H1, J1, ry, a, dy, fs, ey, ea, l, q⟩ => ?_) ht
  subst ey
  obtain rfl : u = Value.ref a := ry
  refine getmeth_ok J1 ea hc hm l ?_
  exact PySem.W.callWith_K0 (first := [.ref a]) J1.kIn hm.kp (run_fnSD (us := [.ref a]) (vs := [.ref a]) (E := fun σ cls d H => W cls d σ H) F (hr.mono hk) b d (passW tk sl) J1 (.cons rfl .nil) q)
end
end Z
set_option maxHeartbeats 4000000
namespace Z
open PySem PySem.Spec PyProof.Rows L2
section
variable {X : Cx} {k j : Nat} {C : Addr} {sp : Sp} {W : WX} {x : Str} {p pos : Pos} {e : Expr} {es : List Expr} {t : TA}
/-- X(), X an own exception class without an __init__ of the text -/
theorem pmk_x0 {bmB : List Value} {B newId initId : String} (F : ExcBaseFacts B newId initId bmB) (q : PySem.W.excIn X.K C bmB newId = true) (gC : X.mg x = some (.ref C)) (kC : PySem.W.keepIn X.K (.ref C) = true) (r : Raises X (.ref C)) (hg : Gl X x := by rfl)
    (hdb : (x == ("__debug__" : Str)) = false := by decide) : L2N.PMk X (.Call (.Name x p) [] [] pos) (fun _ H Q => Q (.ref C) none H) := by
  intro pi s0 sl H0 Q0 J h0
  refine wpAny_Call_Name_kw (ld_glob J hg gC ?_ hdb)
  refine PySem.W.callWith_K0 J.kIn kC ?_
  show wpAny _ _ (call (.ref C) []) _ _ _
  obtain ⟨bm, N, nm, qn, bs, hdct, sn, sub, ab, col, dd, k0, k1, k2, k3, k5, mN, hC, hN, hni, T⟩ := exc_obj J.kIn q
  refine wpAny_call_exc_subT F T hC hN hni (fun h1 e1 hm => ?_) (Nat.zero_le _)
  exact L2N.mk_of J hm r h0 (J.hok.gone hm.new)
/-- C(..), C's own __init__ keeping sp: what is left is an exception without a context -/
theorem run_exc {fI : Addr} {fd : FuncData} {ps : List Str} {pi : List (Addr × Obj)} {sl : L2.St} {H1 : Hp} {s1 : Shared} {Q0 : XK} {us : List Value} {xs : List V} (T : OexC X.K C) (iC : PySem.W.findIn X.K (.ref C) "__init__" = some (some (.ref fI)))
    (tI : PySem.W.typeIn X.K (.ref fI) = some (.type "function")) (F1 : FnOk X.prog X.w X.K X.mg X.base (L2N.CX X.prog X.w) k fI fd ps sp) (hr : Room (k + 1) X.A) (hb : Binds X.K fd ps []) (hx : Passes (L2N.CX X.prog X.w) X (fun _ _ _ => False)) (J1 : Inv X pi sl H1 s1) (r1 : Vals xs us) (hz : xs.length ≤ 1000)
    (q1 : ∀ a, H1 a = none → sp (.ref a :: (xs ++ [])) (upd H1 a (exo a C none)) (fun v H2 => v = .non ∧ ∃ (d : Addr) (fs : List (Str × V)), H2 a = some (exo a C (some d)) ∧ H2 d = some (exd d fs) ∧ H1 d = none ∧ Q0 (.ref C) (some d) (upd (del H2 a) d (.xd fs))) (fun _ _ _ => False)) :
    wpAny (model X.prog X.w) X.A (call (.ref C) us) (L2N.MkP X pi sl Q0) X.xe s1 := by
  obtain ⟨nm, q, N, bs, bm, sn, sub, ab, col, dd, k0, k1, k2, k3, k5, hC, hbm⟩ := T.cls
  obtain ⟨hp, g, dr, tk, os⟩ := s1
  have sz0 := Nat.le_succ hp.objs.size
  have nw : H1 (hp.objs.size + 1) = none := J1.hok.fresh sz0
  have asked := q1 _ nw
  have old : ∀ b o, hp.get? b = some o → ((hp.push (PySem.W.kdv_tup us)).push (PySem.HandSPX.excO C hp.objs.size)).get? b = some o := fun b o e1 => Heap.get?_push_of_some _ (Heap.get?_push_of_some _ e1)
  have at_new : ((hp.push (PySem.W.kdv_tup us)).push (PySem.HandSPX.excO C hp.objs.size)).get? (hp.objs.size + 1) = some (PySem.HandSPX.excO C hp.objs.size) := by heap_get
  have J2 := J1.laid (t' := tk) (a := hp.objs.size + 1) (o := exo (hp.objs.size + 1) C none) old sz0 (exo_ok at_new)
  have r2 : Vals (V.ref (hp.objs.size + 1) :: (xs ++ [])) (Value.ref (hp.objs.size + 1) :: (us ++ [])) := .cons rfl (r1.append .nil)
  have szl : (Value.ref (hp.objs.size + 1) :: us ++ []).length = ps.length := r2.length.symm.trans (F1.len _ _ _ _ asked)
  have szu : us.length ≤ sizeLine := by rw [← Paired.length r1, sizeLine_eq]; omega
  have bd := hb _ (Value.ref (hp.objs.size + 1) :: us) J2.kIn szl
  have run := F1.run (X.A.under (.builtin "type.__call__" ⟨.ref C :: us, []⟩)) X.stack _ _ ⟨Value.ref (hp.objs.size + 1) :: us, []⟩ _ _ _ (fun _ _ _ => False) (hr.make C us []) (J2.env0.make C us []) bd r2 asked
  have looks := PySem.W.looks_findIn (M := model X.prog X.w) J1.kIn iC
  refine wpAny_call (PySem.HandSPX.call_own PySem.F.excBase_ValueError (fun Y => PySem.HandSPX.refsVE_contains Y bm hbm) (J1.kIn _ _ hC) looks (fun self => PySem.W.bind_fn J1.kIn self tI) szu (codeAny_mono run fun fin s3 hq => ?_))
  match fin, hq with
  | .error er, hq => exact hx pi sl _ _ er s3 J2 hq
  | .ok (.ret u), hq =>
    obtain ⟨v, H2, os2, bare2, un2, hok2, rv, ev, d, fs, ea, ed, hd1, q2⟩ := hq
    subst ev
    obtain ⟨h2, g2, d2, t2, os'⟩ := s3
    obtain ⟨t0, G, J3, kG, ge, hoe, na⟩ := mk_end0 (d2 := d2) (t2 := t2) J1 sz0 old un2 hok2 os2 bare2 ea ed hd1
    exact ⟨rv, _, _, _, ⟨G, g2, d2, t2, os'⟩, _, .ref C, some d, rfl, J3, kG, ge, hoe, ⟨rfl, rfl, fun vs ev => by cases ev; rfl⟩, rfl, rfl, na, rfl, bare2, raises_own T.exC T.tyC, q2⟩
theorem pmk_x (c : MakX X.prog X.w X.K X.mg X.base k x C sp) (hr : Room j X.A) (hk : k + 1 ≤ j) (hx : Passes (L2N.CX X.prog X.w) X (fun _ _ _ => False)) (ha : PA X (e :: es) t) (hg : Gl X x := by rfl)
    (hdb : (x == ("__debug__" : Str)) = false := by decide) (he : starEach (e :: es) X.env = (false, eval e X.env) :: starEach es X.env := by rfl) (hpl : (backTo pos (starEach es X.env)).any (·.1) = false := by rfl) :
    L2N.PMk X (.Call (.Name x p) (e :: es) [] pos) (tMkO C sp [] t) := by
  obtain ⟨f, fd, ps, T, iC, tI, F, hm, b⟩ := c.ex
  intro pi s0 sl H0 Q0 J h0
  refine wpAny_Call_Name_kw (ld_glob J hg hm ?_ hdb)
  refine PySem.W.callWith_K (h₀ := X.base) J.ok.mod.kin T.kC (thn (ha.run pos pi s0 sl H0 _ J h0) fun us s1 ⟨xs, H1, J1, r1, hz, q1⟩ => ⟨J1.kIn, ?_⟩) he hpl
  exact run_exc T iC tI F (hr.mono hk) b hx J1 r1 hz q1
theorem passF : Passes (L2N.CX X.prog X.w) X (fun _ _ _ => False) := fun _ _ _ _ _ _ _ h => by
  obtain ⟨_, _, _, _, _, _, _, _, _, _, _, _, z⟩ := h
  exact z.elim
def rOwn1 (C : Addr) (sp : Sp) (E : XK) : V → Hp → VK → Prop := fun x H Q => ∃ a dx fs, x = .ref a ∧ H a = some (.ins C dx fs) ∧ sp [.ref a] H Q E
def rOr (r r' : R2) : R2 := fun x y H Q => r x y H Q ∨ r' x y H Q
def rOr1 (r r' : V → Hp → VK → Prop) : V → Hp → VK → Prop := fun x H Q => r x H Q ∨ r' x H Q
theorem op_or2 {f : Value → Value → Sem Value} {r r' : R2} (h : OpR X f r) (h' : OpR X f r') : OpR X f (rOr r r') := by
  intro pi s0 sl H0 y z v u Q0 J ry rz h0
  rcases h0 with h0 | h0
  · exact h _ _ _ _ _ _ _ _ _ J ry rz h0
  · exact h' _ _ _ _ _ _ _ _ _ J ry rz h0
def zNeg : V → Hp → VK → Prop := fun x H Q => ∃ i, x = .int i ∧ Q (.int (-i)) H
def zAdd : R2 := fun x y H Q => ∃ i j, x = .int i ∧ y = .int j ∧ Q (.int (i + j)) H
def zSub : R2 := fun x y H Q => ∃ i j, x = .int i ∧ y = .int j ∧ Q (.int (i - j)) H
/-- a size of bits -/
def Bits (n : Nat) (i : Int) : Prop := i.natAbs < 2 ^ n
def zMul : R2 := fun x y H Q => ∃ i j, x = .int i ∧ y = .int j ∧ IntMulOk i j ∧ Q (.int (i * j)) H
def zDiv : R2 := fun x y H Q => ∃ i j, x = .int i ∧ y = .int j ∧ (j ≠ 0 ∧ j.natAbs.log2 < 9000) ∧ Q (.int (i.fdiv j)) H
def zMod : R2 := fun x y H Q => ∃ i j, x = .int i ∧ y = .int j ∧ 0 < j ∧ Q (.int (i % j)) H
def zPow : R2 := fun x y H Q => ∃ i j, x = .int i ∧ y = .int j ∧ CPow i j ∧ Q (.int (i ^ j.toNat)) H
def zLt : R2 := fun x y H Q => ∃ i j, x = .int i ∧ y = .int j ∧ Q (.bl (decide (i < j))) H
def zLe : R2 := fun x y H Q => ∃ i j, x = .int i ∧ y = .int j ∧ Q (.bl (decide (i ≤ j))) H
def zGt : R2 := fun x y H Q => ∃ i j, x = .int i ∧ y = .int j ∧ Q (.bl (decide (j < i))) H
def zGe : R2 := fun x y H Q => ∃ i j, x = .int i ∧ y = .int j ∧ Q (.bl (decide (j ≤ i))) H
def zIsN : R2 := fun x y H Q => y = .non ∧ Q (.bl (decide (x = .non))) H
def zNotN : R2 := fun x y H Q => y = .non ∧ Q (.bl (!decide (x = .non))) H
theorem o_neg : UnR X (unaryOp .USub) zNeg := un_neg
theorem o_add : OpR X (binaryOp .Add) zAdd := op_add
theorem o_sub : OpR X (binaryOp .Sub) zSub := op_sub
theorem o_mul : OpR X (binaryOp .Mult) zMul := opI fun _ _ _ _ _ _ _ hc q => mul_int q hc
theorem o_div : OpR X (binaryOp .FloorDiv) zDiv := opI (C := fun _ j => j ≠ 0 ∧ j.natAbs.log2 < 9000) fun _ _ _ _ _ _ _ hc q => floordiv_int hc.1 q (.inl (PyProof.noPylong_of_log2 hc.2))
theorem o_mod : OpR X (binaryOp .Mod) zMod := op_mod
theorem o_pow : OpR X (binaryOp .Pow) zPow := op_pow
theorem o_lt : OpR X (compareOp .Lt) zLt := op_lt
theorem o_le : OpR X (compareOp .LtE) zLe := op_le
theorem o_gt : OpR X (compareOp .Gt) zGt := op_gt
theorem o_isN : OpR X (compareOp .Is) zIsN := op_isN
theorem o_notN : OpR X (compareOp .IsNot) zNotN := op_notN
end
section
variable {K : PySem.W.Frag} {σ : L2.St} {H : Hp} {Q : VK} {v : V} {ta tb te : TE} {r r' : R2}
theorem z_var {i : Nat} (h : σ[i]? = some (some v)) (q : Q v H) : tVar i σ H Q := ⟨v, h, q⟩
theorem z_c (q : Q v H) : tC v σ H Q := q
theorem z_op (q : ta σ H fun x H1 => tb σ H1 fun y H2 => r x y H2 Q) : tOp r ta tb σ H Q := q
theorem z_un {u : V → Hp → VK → Prop} (q : ta σ H fun x H1 => u x H1 Q) : tUn u ta σ H Q := q
theorem z_neg {i : Int} (q : Q (.int (-i)) H) : zNeg (.int i) H Q := ⟨i, rfl, q⟩
theorem z_add {i j : Int} (q : Q (.int (i + j)) H) : zAdd (.int i) (.int j) H Q := ⟨i, j, rfl, rfl, q⟩
theorem z_sub {i j : Int} (q : Q (.int (i - j)) H) : zSub (.int i) (.int j) H Q := ⟨i, j, rfl, rfl, q⟩
theorem z_mul {i j : Int} (c : IntMulOk i j) (q : Q (.int (i * j)) H) : zMul (.int i) (.int j) H Q := ⟨i, j, rfl, rfl, c, q⟩
theorem z_mulL {i j : Int} (h1 : -18446744073709551616 < i) (h2 : i < 18446744073709551616) (q : Q (.int (i * j)) H) : zMul (.int i) (.int j) H Q := z_mul (CMul.ok (.inl ⟨by simpa using h1, by simpa using h2⟩)) q
theorem z_mulR {i j : Int} (h1 : -18446744073709551616 < j) (h2 : j < 18446744073709551616) (q : Q (.int (i * j)) H) : zMul (.int i) (.int j) H Q := z_mul (CMul.ok (.inr ⟨by simpa using h1, by simpa using h2⟩)) q
theorem z_mulB {i j : Int} {a b : Nat} (ha : Bits a i) (hb : Bits b j) (h0 : 0 < a) (h1 : 0 < b) (h : a + b ≤ 1000000) (q : Q (.int (i * j)) H) : zMul (.int i) (.int j) H Q := z_mul (CMulW.ok (wide_mul ha hb h0 h1 h)) q
theorem z_divN {i j : Int} {b : Nat} (h : j ≠ 0) (hb : Bits b j) (h0 : 0 < b) (h9 : b ≤ 9000) (q : Q (.int (i.fdiv j)) H) : zDiv (.int i) (.int j) H Q := ⟨i, j, rfl, rfl, ⟨h, Nat.lt_of_lt_of_le (PySem.Flt.log2_lt_of h0 hb) h9⟩, q⟩
theorem z_div {i j : Int} {b : Nat} (h : 0 < j) (hb : Bits b j) (h0 : 0 < b) (h9 : b ≤ 9000) (q : Q (.int (i / j)) H) : zDiv (.int i) (.int j) H Q := z_divN (by omega) hb h0 h9 (by rw [Int.fdiv_eq_ediv_of_nonneg i (by omega)]; exact q)
theorem z_divS {i j : Int} (h : 0 < j) (h2 : j < 18446744073709551616) (q : Q (.int (i / j)) H) : zDiv (.int i) (.int j) H Q := z_div (b := 64) h (by unfold Bits; have e : (2 : Nat) ^ 64 = 18446744073709551616 := by decide
                                                                                                                                                      omega) (by decide) (by decide) q
theorem z_mod {i j : Int} (c : 0 < j) (q : Q (.int (i % j)) H) : zMod (.int i) (.int j) H Q := ⟨i, j, rfl, rfl, c, q⟩
theorem z_pow {i j : Int} (c : CPow i j) (q : Q (.int (i ^ j.toNat)) H) : zPow (.int i) (.int j) H Q := ⟨i, j, rfl, rfl, c, q⟩
theorem z_lt {i j : Int} (q : Q (.bl (decide (i < j))) H) : zLt (.int i) (.int j) H Q := ⟨i, j, rfl, rfl, q⟩
theorem z_le {i j : Int} (q : Q (.bl (decide (i ≤ j))) H) : zLe (.int i) (.int j) H Q := ⟨i, j, rfl, rfl, q⟩
theorem z_gt {i j : Int} (q : Q (.bl (decide (j < i))) H) : zGt (.int i) (.int j) H Q := ⟨i, j, rfl, rfl, q⟩
theorem z_ge {i j : Int} (q : Q (.bl (decide (j ≤ i))) H) : zGe (.int i) (.int j) H Q := ⟨i, j, rfl, rfl, q⟩
theorem z_isN {x : V} (q : Q (.bl (decide (x = .non))) H) : zIsN x .non H Q := ⟨rfl, q⟩
theorem z_notN {x : V} (q : Q (.bl (!decide (x = .non))) H) : zNotN x .non H Q := ⟨rfl, q⟩
theorem z_eqI {i j : Int} (q : Q (.bl (decide (i = j))) H) : rEq (.int i) (.int j) H Q := ⟨rfl, by
  have e : decide (V.int i = V.int j) = decide (i = j) := by rw [Bool.eq_iff_iff]; simp
  rw [e]; exact q⟩
theorem z_neI {i j : Int} (q : Q (.bl (!decide (i = j))) H) : rNe (.int i) (.int j) H Q := ⟨rfl, by
  have e : decide (V.int i = V.int j) = decide (i = j) := by rw [Bool.eq_iff_iff]; simp
  rw [e]; exact q⟩
theorem z_nil {QA : List V → Hp → Prop} (q : QA [] H) : tNil σ H QA := q
theorem z_cons {tr : TA} {QA : List V → Hp → Prop} (q : ta σ H fun x H1 => tr σ H1 fun xs H2 => QA (x :: xs) H2) : tCons ta tr σ H QA := q
theorem z_call {sp : Sp} {dvs : List V} {W : WX} {t : TA} (q : t σ H fun vs H1 => sp (vs ++ dvs) H1 Q (fun cls d H' => W cls d σ H')) : tCallW sp dvs W t σ H Q := q
theorem z_cb {rc : List V → Hp → VK → Prop} {t : TA} (q : t σ H fun vs H1 => rc vs H1 Q) : tCB rc t σ H Q := q
theorem z_if {tt : TT} (q : tt σ H fun c H1 => if c = true then ta σ H1 Q else tb σ H1 Q) : tIf tt ta tb σ H Q := q
theorem z_andV (q : ta σ H fun x H1 => ∃ c, x = .bl c ∧ if c = true then tb σ H1 Q else Q (.bl false) H1) : tAndV ta tb σ H Q := q
theorem z_orV (q : ta σ H fun x H1 => ∃ c, x = .bl c ∧ if c = true then Q (.bl true) H1 else tb σ H1 Q) : tOrV ta tb σ H Q := q
theorem z_notV (q : ta σ H fun x H1 => ∃ c, x = .bl c ∧ Q (.bl (!c)) H1) : tNotV ta σ H Q := q
variable {QB : Bool → Hp → Prop} {b : Bool} {tt tu : TT}
theorem z_test (q : te σ H fun x H1 => ∃ k, x = .bl k ∧ QB k H1) : tTest te σ H QB := q
theorem z_tb (q : te σ H fun x H1 => ∃ k, x = .bl k ∧ QB k H1) : tB te σ H QB := q
theorem z_bl (q : QB b H) : ∃ k, V.bl b = .bl k ∧ QB k H := ⟨b, rfl, q⟩
theorem z_blI {P : Bool → Prop} (q : P b) : ∃ k, V.bl b = .bl k ∧ P k := ⟨b, rfl, q⟩
theorem z_and (q : tt σ H fun c H1 => if c = true then tu σ H1 QB else QB false H1) : tAnd tt tu σ H QB := q
theorem z_or (q : tt σ H fun c H1 => if c = true then QB true H1 else tu σ H1 QB) : tOr tt tu σ H QB := q
theorem z_not (q : tt σ H fun c H1 => QB (!c) H1) : tNot tt σ H QB := q
variable {D : Ends} {t u : TS}
theorem z_seq (q : t { D with nx := u D } σ H) : tSeq t u D σ H := q
theorem z_next (q : D.nx σ H) : tNext D σ H := q
theorem z_asg {i : Nat} (q : te σ H fun x H1 => D.nx (σ.set i (some x)) H1) : tAsg te (gName i) D σ H := q
theorem z_ret (q : te σ H D.rt) : tRet te D σ H := q
theorem z_retN (q : D.rt .non H) : tRetN D σ H := q
theorem z_drop (q : te σ H fun _ H1 => D.nx σ H1) : tDrop te D σ H := q
theorem z_ifS (q : tt σ H fun b H1 => if b = true then t D σ H1 else u D σ H1) : tIfS tt t u D σ H := q
theorem z_par {i j : Nat} {ta : TA} (q : ta σ H fun vs H1 => ∃ v w, vs = [v, w] ∧ D.nx ((σ.set i (some v)).set j (some w)) H1) : tPar i j ta D σ H := q
theorem z_par2 {v w : V} {P : V → V → Prop} (q : P v w) : ∃ v' w', [v, w] = [v', w'] ∧ P v' w' := ⟨v, w, rfl, q⟩
theorem z_nx {n : L2.St → Hp → Prop} {rt : VK} {bk ct : L2.St → Hp → Prop} (q : n σ H) : Ends.nx ⟨n, rt, bk, ct⟩ σ H := q
theorem z_rt {n : L2.St → Hp → Prop} {rt : VK} {bk ct : L2.St → Hp → Prop} (q : rt v H) : Ends.rt ⟨n, rt, bk, ct⟩ v H := q
theorem z_bk {n : L2.St → Hp → Prop} {rt : VK} {bk ct : L2.St → Hp → Prop} (q : bk σ H) : Ends.bk ⟨n, rt, bk, ct⟩ σ H := q
theorem z_ct {n : L2.St → Hp → Prop} {rt : VK} {bk ct : L2.St → Hp → Prop} (q : ct σ H) : Ends.ct ⟨n, rt, bk, ct⟩ σ H := q
theorem z_break (q : D.bk σ H) : tBreak D σ H := q
theorem z_cont (q : D.ct σ H) : tCont D σ H := q
/-- a decided branch -/
theorem z_T {A B : Prop} (h : A) : if true = true then A else B := by rw [if_pos rfl]; exact h
theorem z_F {A B : Prop} (h : B) : if false = true then A else B := by rw [if_neg Bool.false_ne_true]; exact h
theorem z_dT {c : Prop} [Decidable c] {A B : Prop} (hc : c) (h : A) : if decide c = true then A else B := by rw [if_pos (decide_eq_true hc)]; exact h
theorem z_dF {c : Prop} [Decidable c] {A B : Prop} (hc : ¬ c) (h : B) : if decide c = true then A else B := by rw [decide_eq_false hc, if_neg Bool.false_ne_true]; exact h
theorem z_d2 {c : Prop} [Decidable c] {A B : Prop} (h1 : c → A) (h2 : ¬ c → B) : if decide c = true then A else B := by
  by_cases h : c
  · exact z_dT h (h1 h)
  · exact z_dF h (h2 h)
theorem z_nn {b : Bool} {A B : Prop} (h : if b = true then B else A) : if (!b) = true then A else B := by
  cases b
  · exact z_T (by simpa using h)
  · exact z_F (by simpa using h)
end
end Z
set_option maxHeartbeats 4000000
namespace Z
open PySem PySem.Spec PyProof.Rows L2
abbrev Frag := PySem.W.Frag
abbrev Chk := Frag → Bool
abbrev SeenZ : Type := Bool × List He.FnW
def seenK (fb : List Chk) (fn : List He.DefD) (K : Frag) : SeenZ := ((fb.all fun c => c K) && fn.all fun d => d.ok K, fn.map fun d => He.fnW K d.at_)
def dueK (fn : List He.DefD) : SeenZ := (true, fn.map He.DefD.val)
def Says (fb : List Chk) (fn : List He.DefD) (K : Frag) : Prop := seenK fb fn K = dueK fn
section
variable {fb : List Chk} {fn : List He.DefD} {K : Frag}
theorem Says.fact (c : Says fb fn K) (i : Nat) {f : Chk} (h : fb[i]? = some f := by rfl) : f K = true := by
  have q := (He.ba (congrArg (fun z : SeenZ => z.1) c)).1
  exact List.all_eq_true.mp q f (List.mem_of_getElem? h)
theorem Says.def_ (c : Says fb fn K) (i : Nat) {d : He.DefD} (h : fn[i]? = some d := by rfl) : ∃ fd, FunD K d.name d.qual d.params d.body d.scope (d.dvs K) (d.kws K) (He.fAd K d.at_) fd := by
  have q := (He.ba (congrArg (fun z : SeenZ => z.1) c)).2
  have e : fn.map (fun d => He.fnW K d.at_) = fn.map He.DefD.val := congrArg (fun z : SeenZ => z.2) c
  have e2 := congrArg (fun l => l[i]?) e
  simp only [List.getElem?_map, h, Option.map_some] at e2
  exact He.DefD.funD (Option.some.inj e2) (List.all_eq_true.mp q d (List.mem_of_getElem? h))
end
def cGlo (x : Str) : Chk := fun K => (He.Fa.glo x).ok K
def cFree (x : Str) : Chk := fun K => (He.Fa.free x).ok K
def cVal (x : Str) (id : String) : Chk := fun K => He.eqO (PySem.W.nsIn K mainGlobals x) (some (some (.builtin id)))
def cCls (x : Str) : Chk := fun K => (He.Fa.cls x).ok K
def cNo (x f : Str) : Chk := fun K => (He.Fa.noat x f).ok K
def cMeth (x m : Str) : Chk := fun K => (He.Fa.meth x m).ok K
def cMk (x : Str) : Chk := fun K => (He.Fa.mkr x).ok K
def cExc0 (x : Str) : Chk := fun K => (He.Fa.exc x).ok K
def cExm (x y : Str) (b : Bool) : Chk := fun K => (He.Fa.exm x y b).ok K
def cSelf (x : Str) : Chk := fun K => PySem.W.selfFirst K (He.ga K x)
/-- an exception class whose own __init__ is walked -/
def oexB (K : Frag) (C : Addr) : Bool := match K.lookup C with
  | some ⟨.type t, _, .cls cd, sl⟩ => (match cd.mro, sl.toList with
    | .ref C' :: bm, [_, _, _, _, some (.builtin n), _] => decide (t = "type") && (decide (C' = C) && (decide (n = "ValueError.__new__") && (!cd.hasDel && (cd.hasDict && PySem.HandSPX.refsVE bm))))
    | _, _ => false)
  | _ => false
theorem oexB_ok {K : Frag} {C : Addr} (h : oexB K C = true) : ∃ nm q N bs bm sn sub ab col dd k0 k1 k2 k3 k5, K.lookup C = some (excClassObj nm q C N bs bm true sn sub ab col dd k0 k1 k2 k3 k5 "ValueError.__new__") ∧ PySem.HandSPX.refsVE bm = true := by
  unfold oexB at h
  split at h
  · rename_i t dd cd sl ho
    split at h
    · rename_i C' bm k0 k1 k2 k3 n k5 hm hs
      obtain ⟨h1, h⟩ := He.ba h
      obtain ⟨h2, h⟩ := He.ba h
      obtain ⟨h3, h⟩ := He.ba h
      obtain ⟨h4, h⟩ := He.ba h
      obtain ⟨h5, h6⟩ := He.ba h
      have e1 := of_decide_eq_true h1
      have e2 := of_decide_eq_true h2
      have e3 := of_decide_eq_true h3
      obtain ⟨nm, bs, mro, ns, qn, hd, sn, sub, ab, col, del⟩ := cd
      have e4 : del = false := by simpa using h4
      have e5 : hd = true := h5
      dsimp only at hm
      subst hm e4 e5 e1 e2 e3
      have hsl : sl = #[k0, k1, k2, k3, some (.builtin "ValueError.__new__"), k5] := by
        obtain ⟨l⟩ := sl
        simp only at hs
        rw [hs]
      subst hsl
      exact ⟨nm, qn, ns, bs, bm, sn, sub, ab, col, dd, k0, k1, k2, k3, k5, ho, h6⟩
    · cases h
  · cases h
def cOex (x : Str) : Chk := fun K => oexB K (He.ga K x) && (He.eqO (PySem.W.findIn K (.ref (He.ga K x)) "__setattr__") (some (some (.builtin "object.__setattr__"))) && (decide (PySem.W.subIn K (.ref (He.ga K x)) (.type "BaseException") = some true) &&
  (decide (PySem.W.typeIn K (.ref (He.ga K x)) = some (.type "type")) && (PySem.W.keepIn K (.ref (He.ga K x)) && (He.eqO (PySem.W.findIn K (.ref (He.ga K x)) "__init__") (some (some (.ref (He.ma K (He.ga K x) "__init__")))) && decide (PySem.W.typeIn K (.ref (He.ma K (He.ga K x) "__init__")) = some (.type "function")))))))
theorem oex_ok {K : Frag} {x : Str} (h : cOex x K = true) : OexC K (He.ga K x) ∧ PySem.W.findIn K (.ref (He.ga K x)) "__init__" = some (some (.ref (He.ma K (He.ga K x) "__init__"))) ∧ PySem.W.typeIn K (.ref (He.ma K (He.ga K x) "__init__")) = some (.type "function") := by
  obtain ⟨h1, h⟩ := He.ba h
  obtain ⟨h2, h⟩ := He.ba h
  obtain ⟨h3, h⟩ := He.ba h
  obtain ⟨h4, h⟩ := He.ba h
  obtain ⟨h5, h⟩ := He.ba h
  obtain ⟨h6, h7⟩ := He.ba h
  exact ⟨⟨oexB_ok h1, He.eqO_ok h2, of_decide_eq_true h3, of_decide_eq_true h4, h5⟩, He.eqO_ok h6, of_decide_eq_true h7⟩
/-- an exception of this class caught: its fields, isinstance -/
def cExcC (x : Str) : Chk := fun K => He.eqO (PySem.W.findIn K (.ref (He.ga K x)) "__getattribute__") (some (some (.builtin "BaseException.__getattribute__"))) && (He.eqO (PySem.W.findIn K (.ref (He.ga K x)) "__getattr__") (some none) && (decide (PySem.W.subIn K (.ref (He.ga K x)) (.type "BaseException") = some true) &&
  (PySem.W.hasDictIn K (He.ga K x) && (He.eqO (PySem.W.findIn K (.ref (He.ga K x)) "__class__") (some (some (.builtin "object.__class__"))) && (decide (PySem.W.specialIn K (.builtin "object.__class__") "__get__" = some (some (.builtin "getset_descriptor.__get__"))) &&
  (decide (PySem.W.takesIn K (.builtin "object.__class__") = some true) && decide (PySem.W.mroIn K (He.ga K x) (.type "object") = some true)))))))
theorem excC_ok {K : Frag} {x : Str} (h : cExcC x K = true) : ExcC K (He.ga K x) := by
  obtain ⟨h1, h⟩ := He.ba h
  obtain ⟨h2, h⟩ := He.ba h
  obtain ⟨h3, h⟩ := He.ba h
  obtain ⟨h4, h⟩ := He.ba h
  obtain ⟨h5, h⟩ := He.ba h
  obtain ⟨h6, h⟩ := He.ba h
  obtain ⟨h7, h8⟩ := He.ba h
  exact ⟨He.eqO_ok h1, He.eqO_ok h2, of_decide_eq_true h3, h4, He.eqO_ok h5, of_decide_eq_true h6, of_decide_eq_true h7, of_decide_eq_true h8⟩
theorem _root_.L2.ExcC.xf {K : Frag} {C : Addr} (c : ExcC K C) : XfC K C := ⟨c.hg, c.hk, c.hs, c.hd⟩
/-- isinstance of an instance of this class -/
structure InsK (K : Frag) (C : Addr) : Prop where
  cl : Cls K C
  ha : PySem.W.findIn K (.ref C) "__class__" = some (some (.builtin "object.__class__"))
  hn : PySem.W.specialIn K (.builtin "object.__class__") "__get__" = some (some (.builtin "getset_descriptor.__get__"))
  ht : PySem.W.takesIn K (.builtin "object.__class__") = some true
  hm : PySem.W.mroIn K C (.type "object") = some true
theorem InsK.ty {K : Frag} {C a dx : Addr} {fs : List (Str × V)} {H : Hp} (c : InsK K C) (h : H a = some (.ins C dx fs)) : TyX K H (.ref a) (.ref C) := .base (.ins h c.cl c.ha c.hn c.ht c.hm)
def cIns (x : Str) : Chk := fun K => (He.Fa.cls x).ok K && (He.eqO (PySem.W.findIn K (.ref (He.ga K x)) "__class__") (some (some (.builtin "object.__class__"))) && (decide (PySem.W.specialIn K (.builtin "object.__class__") "__get__" = some (some (.builtin "getset_descriptor.__get__"))) &&
  (decide (PySem.W.takesIn K (.builtin "object.__class__") = some true) && decide (PySem.W.mroIn K (He.ga K x) (.type "object") = some true))))
theorem insK_ok {K : Frag} {x : Str} (h : cIns x K = true) : InsK K (He.ga K x) := by
  obtain ⟨h1, h⟩ := He.ba h
  obtain ⟨h5, h⟩ := He.ba h
  obtain ⟨h6, h⟩ := He.ba h
  obtain ⟨h7, h8⟩ := He.ba h
  exact ⟨He.cls_ok h1, He.eqO_ok h5, of_decide_eq_true h6, of_decide_eq_true h7, of_decide_eq_true h8⟩
/-- isinstance's answer for an instance of x asked for the class y; for a value of the built-in type t asked for y; for an instance of x asked for the built-in type t -/
def cKit (x y : Str) (b : Bool) : Chk := fun K => decide (PySem.W.kitOne K (.ref (He.ga K x)) (.ref (He.ga K y)) = some b)
def rIsX (K : Frag) (D : Addr) (a : Addr) : List V → Hp → VK → Prop := fun xs H Q => ∃ (c : V) (cv : Value) (b : Bool), xs = [.ref a, c] ∧ ClsV c cv ∧ PySem.W.kitOne K (.ref D) cv = some b ∧ Q (.bl b) H
/-- the caught one's class is D, its dict none or a tracked one -/
theorem call_isEx {X : Cx} {a D : Addr} {oe : Obj} {cls : Value} {d : Option Addr} {pn : List (Addr × Obj)} (C : ExcC X.K D) (hz : Zc cls d oe) (hf : ∃ vs, oe.data = .fields vs) :
    CallR (X.suite a ((a, oe) :: pn)) (.builtin "isinstance") (fun xs H Q => cls = .ref D ∧ (∀ dd, d = some dd → ∃ fs, H dd = some (.xd fs)) ∧ rIsX X.K D a xs H Q) := by
  intro pi s0 sl H0 xs us Q0 J r h0
  obtain ⟨ec, hd, c, cv, b, rfl, kc, e, q⟩ := h0
  obtain ⟨u1, u2, rfl, r1, r2⟩ := vals2 r
  obtain rfl : u1 = Value.ref a := r1
  have e2 := kc.eq r2
  subst e2
  subst ec
  obtain ⟨hget, _⟩ := J.pin (a, oe) (List.mem_append_left _ List.mem_cons_self)
  obtain ⟨vs, hv⟩ := hf
  have nc : PySem.W.notCls oe := by unfold PySem.W.notCls; rw [hv] <;> rfl
  have inst : ∃ od, PySem.W.InstAt s0.heap a oe D od := by
    cases d with
    | none => exact ⟨none, hget, hz.1, nc, by rw [hz.2]; trivial⟩
    | some dd =>
      obtain ⟨fs, hx⟩ := hd dd rfl
      have ox : ObjOk X.prog X.w H0 s0.heap dd (.xd fs) := J.hok dd _ hx
      obtain ⟨mA, hns, _⟩ := ox
      obtain ⟨od, ho, _⟩ := lookIn_ns hns
      exact ⟨some od, hget, hz.1, nc, by rw [hz.2]; exact ho⟩
  obtain ⟨od, I0⟩ := inst
  have hcl : (PySem.W.clsIn X.K D).isSome = true := by
    obtain ⟨cdD, hcD, _⟩ := PySem.W.any_some C.hd
    rw [hcD] <;> rfl
  exact PySem.W.kia_one (PySem.W.kitx_exc hcl C.hg C.hk C.hs C.ha C.hn C.ht C.hm) J.kIn I0 e (fun z => nomatch z) fun tk => ⟨.bl b, H0, J.kept (t' := tk) fun _ _ z => z, rfl, q⟩
section
variable {X : Cx} {k j : Nat} {sp : Sp} {x : Str} {p pos : Pos} {e : Expr} {es : List Expr} {t : TA}
theorem takesF {X : Cx} : L2N.Takes X (fun _ _ _ _ => False) := fun _ _ ⟨_, _, _, _, _, _, _, _, _, _, _, _, _, _, _, _, z⟩ => z.elim
theorem pe_ch (c : CalH X.prog X.w X.K X.mg X.base k x sp) (hr : L2H.RoomH j X.A) (hk : k ≤ j) (hot : L2H.HotC X) (ha : PA X (e :: es) t) (hg : Gl X x := by rfl)
    (hdb : (x == ("__debug__" : Str)) = false := by decide) (he : starEach (e :: es) X.env = (false, eval e X.env) :: starEach es X.env := by rfl) (hpl : (backTo pos (starEach es X.env)).any (·.1) = false := by rfl) :
    PE X (.Call (.Name x p) (e :: es) [] pos) (tCallW sp [] (fun _ _ _ _ => False) t) := by
  obtain ⟨f, fd, ps, F, hm, kp, b⟩ := c.ex
  have h := L2H.pe_callH (E := fun _ _ _ _ => False) F (hr.mono hk) hot hg hm kp b (fun σ => L2N.passAt takesF σ) ha (q := p) hdb he hpl
  refine ⟨fun pi s0 sl H0 Q0 J h0 => h.run pi s0 sl H0 Q0 J ?_⟩
  have e1 : (tCallW sp [] (fun _ _ _ _ => False) t) = L2.tCallS sp (fun _ _ _ _ => False) t := by
    unfold tCallW L2.tCallS
    funext σ H Q
    simp only [List.append_nil]
  rw [← e1]
  exact h0
end
theorem pe_ty {X : Cx} {x : Str} {pos : Pos} (n : String) (hg : Gl X x) (hm : X.mg x = none) (hv : bootBuiltins x = some (.type n)) (hn : x ≠ "__name__" := by decide) (hd : (x == ("__debug__" : Str)) = false := by decide) : PE X (.Name x pos) (tC (.ty n)) :=
  pe_bltn (v := .ty n) (u := .type n) hg hm hv rfl hn hd
theorem pe_cls {X : Cx} {x : Str} {pos : Pos} {a : Addr} (hm : X.mg x = some (.ref a)) (hg : Gl X x := by rfl) (hd : (x == ("__debug__" : Str)) = false := by decide) : PE X (.Name x pos) (tC (.ref a)) :=
  pe_glob (v := .ref a) (u := .ref a) hg hm rfl hd
abbrev F1 := V → Hp → VK → XK → Prop
abbrev F2 := V → V → Hp → VK → XK → Prop
abbrev F3 := V → V → V → Hp → VK → XK → Prop
abbrev F4 := V → V → V → V → Hp → VK → XK → Prop
abbrev F5 := V → V → V → V → V → Hp → VK → XK → Prop
def sp1 (f : F1) : Sp := fun vs H Q E => ∃ a, vs = [a] ∧ f a H Q E
def sp2 (f : F2) : Sp := fun vs H Q E => ∃ a b, vs = [a, b] ∧ f a b H Q E
def sp3 (f : F3) : Sp := fun vs H Q E => ∃ a b c, vs = [a, b, c] ∧ f a b c H Q E
def sp4 (f : F4) : Sp := fun vs H Q E => ∃ a b c d, vs = [a, b, c, d] ∧ f a b c d H Q E
def sp5 (f : F5) : Sp := fun vs H Q E => ∃ a b c d e, vs = [a, b, c, d, e] ∧ f a b c d e H Q E
section
variable {H : Hp} {Q : VK} {E : XK} {a b c d e g : V} {vs : List V}
theorem len1 {f : F1} : ∀ vs H Q E, sp1 f vs H Q E → vs.length = 1 := by rintro _ _ _ _ ⟨_, rfl, _⟩; rfl
theorem len2 {f : F2} : ∀ vs H Q E, sp2 f vs H Q E → vs.length = 2 := by rintro _ _ _ _ ⟨_, _, rfl, _⟩; rfl
theorem len3 {f : F3} : ∀ vs H Q E, sp3 f vs H Q E → vs.length = 3 := by rintro _ _ _ _ ⟨_, _, _, rfl, _⟩; rfl
theorem len4 {f : F4} : ∀ vs H Q E, sp4 f vs H Q E → vs.length = 4 := by rintro _ _ _ _ ⟨_, _, _, _, rfl, _⟩; rfl
theorem len5 {f : F5} : ∀ vs H Q E, sp5 f vs H Q E → vs.length = 5 := by rintro _ _ _ _ ⟨_, _, _, _, _, rfl, _⟩; rfl
theorem z_sq0 {sp : Sp} (h : sp vs H Q E) : sp (vs ++ []) H Q E := by rw [List.append_nil]; exact h
theorem z_sq1 {sp : Sp} (h : sp (a :: vs) H Q E) : sp (a :: (vs ++ [])) H Q E := by rw [List.append_nil]; exact h
end
end Z
namespace Z
open PySem PySem.Spec PyProof.Rows L2
/-- a def of which nothing is raised -/
theorem fn_quiet {P : Program} {w : World} {K : Frag} {mg : Str → Option Value} {base : Heap} {k : Nat} {f : Addr} {fd : FuncData} {ps : List Str} {sp : Sp} (F : FnOk P w K mg base (L2N.CX P w) k f fd ps sp) (hs : ∀ vs H Q E, sp vs H Q E → sp vs H Q (fun _ _ _ => False)) :
    FnOk P w K mg base L2.CX0 k f fd ps sp :=
  ⟨F.len, fun A outer s H args us vs Q E hr he hb hv h => codeAny_mono (F.run A outer s H args us vs Q _ hr he hb hv (hs _ _ _ _ h)) fun r s1 q => by
    match r, q with
    | .ok (.ret u), q => exact q
    | .error e, q =>
      obtain ⟨_, _, _, _, _, _, _, _, _, _, _, _, z⟩ := q
      exact z.elim⟩
end Z
set_option maxHeartbeats 4000000
namespace Z
open PySem PySem.Spec PyProof.Rows L2
section
variable {K : Frag} {H H' H1 H2 : Hp} {Q : VK} {a : Addr} {xs : List V} {o : HO}
theorem Same.at (e : Same H H') (h : H a = some o) : H' a = some o := e a o h
theorem Same.new {p : Addr} (h : H p = none) : Same H (upd H p o) := fun b u hb => by rw [upd_ne (ne_of_none hb h)]; exact hb
theorem z_ixT {p : Addr} {i : Int} {v : V} (h : H p = some (.tup xs)) (e : atI xs i = some v) (q : Q v H) : rIx K (.ref p) (.int i) H Q := .inr (.inl ⟨p, xs, i, v, rfl, rfl, SqT.of h, e, q⟩)
theorem z_ixL {p : Addr} {i : Int} {v : V} (h : SqL K H p xs) (e : atI xs i = some v) (q : Q v H) : rIx K (.ref p) (.int i) H Q := .inl ⟨p, xs, i, v, rfl, rfl, h, e, q⟩
theorem z_new {t : List V → HO} {n : Nat} (hn : n ≤ 16777216) (k : ∀ p, H p = none → Same H (upd H p (t xs)) → upd H p (t xs) p = some (t xs) → Q (.ref p) (upd H p (t xs))) : n ≤ sizeLine ∧ ∀ p, H p = none → Q (.ref p) (upd H p (t xs)) :=
  ⟨by rw [sizeLine_eq]; exact hn, fun p hp => k p hp (Same.new hp) upd_same⟩
def rInt1 : List V → Hp → VK → Prop := fun xs H Q => (∃ i, xs = [.int i] ∧ Q (.int i) H) ∨ ∃ k, xs = [.bl k] ∧ Q (.int (if k then 1 else 0)) H
def rAbs1 : List V → Hp → VK → Prop := fun xs H Q => ∃ i, xs = [.int i] ∧ Q (.int (if i < 0 then -i else i)) H
def rLen1 (K : Frag) : List V → Hp → VK → Prop := fun xs H Q => ∃ x n, xs = [x] ∧ LenV K x H n ∧ Q (.int n) H
def rMax2z : List V → Hp → VK → Prop := fun xs H Q => ∃ i j, xs = [.int i, .int j] ∧ Q (.int (if j > i then j else i)) H
def rMin2z : List V → Hp → VK → Prop := fun xs H Q => ∃ i j, xs = [.int i, .int j] ∧ Q (.int (if j < i then j else i)) H
theorem z_int1 {n : Int} (q : Q (.int n) H) : rInt1 [.int n] H Q := .inl ⟨n, rfl, q⟩
theorem z_intb {b : Bool} (q : Q (.int (if b then 1 else 0)) H) : rInt1 [.bl b] H Q := .inr ⟨b, rfl, q⟩
theorem z_abs {n : Int} (q : Q (.int (n.natAbs : Int)) H) : rAbs1 [.int n] H Q := ⟨n, rfl, by
  have e : (if n < 0 then -n else n) = (n.natAbs : Int) := by split <;> omega
  rw [e]; exact q⟩
theorem z_lenL {p : Addr} (h : SqL K H p xs) (q : Q (.int (xs.length : Int)) H) : rLen1 K [.ref p] H Q := ⟨_, _, rfl, .inl ⟨xs, h, rfl⟩, q⟩
theorem z_lenT {p : Addr} (h : H p = some (.tup xs)) (q : Q (.int (xs.length : Int)) H) : rLen1 K [.ref p] H Q := ⟨_, _, rfl, .inr ⟨xs, SqT.of h, rfl⟩, q⟩
theorem z_max2 {i j : Int} (q : Q (.int (max i j)) H) : rMax2z [.int i, .int j] H Q := ⟨i, j, rfl, by
  have e : (if j > i then j else i) = max i j := by rw [Int.max_def]; split <;> split <;> omega
  rw [e]; exact q⟩
theorem z_min2 {i j : Int} (q : Q (.int (min i j)) H) : rMin2z [.int i, .int j] H Q := ⟨i, j, rfl, by
  have e : (if j < i then j else i) = min i j := by rw [Int.min_def]; split <;> split <;> omega
  rw [e]; exact q⟩
theorem z_gcd {i j : Int} (q : Q (.int (Int.gcd i j : Nat)) H) : rGcd [.int i, .int j] H Q := ⟨i, j, rfl, q⟩
theorem z_isi {x c : V} {t u : Value} {b : Bool} (hc : ClsV c u) (ht : TyX K H x t) (hk : PySem.W.kitOne K t u = some b) (q : Q (.bl b) H) : rIsi K [x, c] H Q := ⟨x, c, t, u, b, rfl, hc, ht, hk, q⟩
theorem z_isiI {n : String} {b : Bool} {i : Int} (hk : kitB "int" n = some b) (q : Q (.bl b) H) : rIsi K [.int i, .ty n] H Q := z_isi (.ty n) (.base (.int i)) (kit_ty hk) q
theorem z_isi_ii {i : Int} (q : Q (.bl true) H) : rIsi K [.int i, .ty "int"] H Q := z_isiI (by decide +kernel) q
theorem z_isi_ib {i : Int} (q : Q (.bl false) H) : rIsi K [.int i, .ty "bool"] H Q := z_isiI (by decide +kernel) q
theorem cell_at {ns : List Int} {k : Int} (h0 : 0 ≤ k) (h : k < ((ns.map V.int).length : Int)) : atI (ns.map V.int) k = some (.int (ns.getD k.toNat 0)) := by
  obtain ⟨n, rfl⟩ := Int.eq_ofNat_of_zero_le h0
  have hn : n < ns.length := by
    rw [List.length_map] at h
    omega
  refine atI_nat ?_
  rw [List.getElem?_map, List.getElem?_eq_getElem hn]
  show some (V.int ns[n]) = some (V.int (ns.getD n 0))
  rw [List.getD_eq_getElem?_getD, List.getElem?_eq_getElem hn]
  rfl
end
section
variable {X : Cx}
theorem o_int1 : CallR X (.type "int") rInt1 := call_int1
theorem o_abs : CallR X (.builtin "abs") rAbs1 := call_abs
theorem o_len : CallR X (.builtin "len") (rLen1 X.K) := call_len
theorem o_min2 (hc : X.calm = true) : CallR X (.builtin "min") rMin2z := call_min2 hc
end
/-- the fields of a Ratio -/
def rF (v w : V) : List (Str × V) := [(("top" : Str), v), (("bottom" : Str), w)]
/-- a Ratio with these fields -/
def IsR (K : Frag) (H : Hp) (a : Addr) (t b : Int) : Prop := ∃ dx, H a = some (.ins (He.ga K "Ratio") dx (rF (.int t) (.int b)))
section
variable {K : Frag} {H H' : Hp} {Q : VK} {a : Addr} {t b : Int} {v w : V}
theorem IsR.mono (e : Same H H') (h : IsR K H a t b) : IsR K H' a t b := h.elim fun dx q => ⟨dx, e _ _ q⟩
theorem tb_ne : ¬ (("top" : Str) = "bottom") := by decide +kernel
theorem bt_ne : ¬ (("bottom" : Str) = "top") := by decide +kernel
theorem rf_top : (rF v w).lookup ("top" : Str) = some v := by
  unfold rF
  rw [lookup_put, if_pos rfl]
theorem rf_bottom : (rF v w).lookup ("bottom" : Str) = some w := by
  unfold rF
  rw [lookup_put, if_neg bt_ne, lookup_put, if_pos rfl]
theorem rf_no {m : Str} (h1 : ¬ m = "top") (h2 : ¬ m = "bottom") : (rF v w).lookup m = none := by
  unfold rF
  rw [lookup_put, if_neg h1, lookup_put, if_neg h2]
  rfl
/-- .. of a name that holds one -/
theorem z_fldt {i : Nat} {p : Addr} {t b : Int} {σ : L2.St} (c : Cls K (He.ga K "Ratio")) (n : NoAttr K (He.ga K "Ratio") "top") (hs : σ[i]? = some (some (.ref p))) (h : IsR K H p t b) (q : Q (.int t) H) : tFld K (tVar i) "top" σ H Q :=
  ⟨_, hs, h.elim fun dx hp => ⟨p, _, dx, _, _, rfl, hp, c, n, rf_top, q⟩⟩
theorem z_fldb {i : Nat} {p : Addr} {t b : Int} {σ : L2.St} (c : Cls K (He.ga K "Ratio")) (n : NoAttr K (He.ga K "Ratio") "bottom") (hs : σ[i]? = some (some (.ref p))) (h : IsR K H p t b) (q : Q (.int b) H) : tFld K (tVar i) "bottom" σ H Q :=
  ⟨_, hs, h.elim fun dx hp => ⟨p, _, dx, _, _, rfl, hp, c, n, rf_bottom, q⟩⟩
end
end Z
set_option maxHeartbeats 4000000
namespace Z
open PySem PySem.Spec PyProof.Rows L2
section
variable {P : Program} {w : World} {K : Frag} {mg : Str → Option Value} {base : Heap} {x qual : Str} {params : Arguments} {body : List Stmt} {scope : Scope} {dvs : List V} {kws : List (Str × V)} {f : Addr} {fd : FuncData}
theorem okH {N ps : List Str} {k : Nat} {sp : Sp} (F : FunD K x qual params body scope dvs kws f fd) (S : FnScope N ps scope) (len : ∀ vs H Q E, sp vs H Q E → vs.length = ps.length)
    (hbody : ∀ (cdv : Value) (A : Around) (outer : List Env) (s : Shared) (H : Hp) (vs : List V) (Q : VK) (E : XK) (p : Addr × Obj), L2H.Hot1 (A.deeper (envOfC qual scope s.heap.objs.size f cdv)) p → L2H.RoomH k (A.deeper (envOfC qual scope s.heap.objs.size f cdv)) → sp vs H Q E →
      ∃ t, PSs (L2H.cxH (L2N.CX P w) P w K mg base N qual scope f cdv A outer s H E p) body t ∧ t { nx := fun _ H' => Q .non H', rt := Q } (start N vs) H) : L2H.FnH P w K mg base (L2N.CX P w) (k + 1) f fd ps sp := by
  obtain ⟨oc, od, dV, kV, doc, pm, an, cdv, ct, osl, rfl, lk, hcd, _, _⟩ := F.ex
  exact L2H.fn_ofH lk hcd S len fun A outer s H vs Q E p h1 hr hsp => hbody cdv A outer s H vs Q E p h1 hr hsp
end
theorem hot_suite {X : Cx} {a : Addr} {oe : Obj} {cls : Value} {d : Option Addr} {pn : List (Addr × Obj)} (hz : L2N.Zn cls d oe) (hf : ∃ vs, oe.data = .fields vs) : L2H.HotC (X.suite a ((a, oe) :: pn)) := by
  obtain ⟨vs, hv⟩ := hf
  exact ⟨(a, oe), ⟨rfl, vs, hv, hz.2.2 vs hv⟩, List.mem_cons_self⟩
theorem hot_in {CX : CXT} {P : Program} {w : World} {K : Frag} {mg : Str → Option Value} {base : Heap} {N : List Str} {qual : Str} {scope : Scope} {f : Addr} {cd : Value} {A : Around} {outer : List Env} {s : Shared} {H : Hp} {E : XK} {p : Addr × Obj} (h : L2H.Hot1 (A.deeper (envOfC qual scope s.heap.objs.size f cd)) p) :
    L2H.HotC (L2H.cxH CX P w K mg base N qual scope f cd A outer s H E p) := ⟨p, h, List.mem_cons_self⟩
theorem room_suite {k : Nat} {A : Around} (r : Room k A) (h : Option Value) : L2H.RoomH k (A.mark h) := ⟨r.dp, r.un⟩
def fs_ex1 (K : Frag) (C : Str) (f : Str) : F2 := fun a b H Q _ => ∃ (e : Addr) (H0 : Hp), a = .ref e ∧ H = upd H0 e (exo e (He.ga K C) none) ∧ H0 e = none ∧
  ∀ (d : Addr) (H' : Hp), H' e = some (exo e (He.ga K C) (some d)) → H' d = some (exd d [(f, b)]) → H0 d = none → Same H0 (upd (del H' e) d (.xd [(f, b)])) → Q .non H'
section
variable {K : Frag} {H H0 : Hp} {Q : VK} {E : XK} {C : Str} {f g : Str} {b c : V} {D : Ends} {σ : L2.St}
/-- self.f = b -/
theorem run_ex1 {e : Addr} (T : OexC K (He.ga K C)) (nf : PySem.W.findIn K (.ref (He.ga K C)) f = some none) (h0 : H0 e = none) (s0 : σ[0]? = some (some (.ref e))) (s1 : σ[1]? = some (some b))
    (k : ∀ (d : Addr) (H' : Hp), H' e = some (exo e (He.ga K C) (some d)) → H' d = some (exd d [(f, b)]) → H0 d = none → Same H0 (upd (del H' e) d (.xd [(f, b)])) → D.nx σ H') :
    tOst K f (tVar 0) (tVar 1) D σ (upd H0 e (exo e (He.ga K C) none)) := by
  refine ⟨_, s1, _, s0, e, _, rfl, T, nf, .inl ⟨upd_same, fun d hd ne => ?_⟩⟩
  have hd0 : H0 d = none := by rw [upd_ne ne] at hd; exact hd
  refine k d _ upd_same (by rw [upd_ne ne, upd_same]) hd0 fun x o hx => ?_
  rw [upd_ne (ne_of_none hx hd0), del_ne (ne_of_none hx h0), upd_ne (ne_of_none hx h0), upd_ne (ne_of_none hx hd0), upd_ne (ne_of_none hx h0)]
  exact hx
end
def rc (n d : Int) : Int := if d < 0 then -((Int.gcd n d : Nat) : Int) else ((Int.gcd n d : Nat) : Int)
def rt (n d : Int) : Int := n.fdiv (rc n d)
def rb (n d : Int) : Int := d.fdiv (rc n d)
theorem rc_ne {n d : Int} (h : d ≠ 0) : rc n d ≠ 0 := by
  have : 0 < Int.gcd n d := Int.gcd_pos_of_ne_zero_right n h
  unfold rc
  split <;> omega
theorem rc_bits {n d : Int} {b : Nat} (h : d ≠ 0) (hb : Bits b d) : Bits b (rc n d) := by
  have h1 : Int.gcd n d ≤ d.natAbs := Nat.le_of_dvd (by omega) (by
    show Nat.gcd n.natAbs d.natAbs ∣ d.natAbs
    exact Nat.gcd_dvd_right _ _)
  unfold Bits at *
  unfold rc
  split <;> omega
theorem rt_pos {n d : Int} (h : 0 < d) : rt n d = n / (Int.gcd n d : Nat) ∧ rb n d = d / (Int.gcd n d : Nat) := by
  have e : rc n d = ((Int.gcd n d : Nat) : Int) := by unfold rc; rw [if_neg (by omega)]
  unfold rt rb
  rw [e, Int.fdiv_eq_ediv_of_nonneg _ (by omega), Int.fdiv_eq_ediv_of_nonneg _ (by omega)]
  exact ⟨rfl, rfl⟩
theorem rt_spec {n d : Int} (h : 0 < d) : 0 < rb n d ∧ Int.gcd (rt n d) (rb n d) = 1 ∧ rt n d * d = n * rb n d := by
  obtain ⟨e1, e2⟩ := rt_pos (n := n) h
  have g0 : 0 < Int.gcd n d := Int.gcd_pos_of_ne_zero_right n (by omega)
  rw [e1, e2]
  refine ⟨?_, ?_, ?_⟩
  · exact Int.ediv_pos_of_pos_of_dvd h (by omega) (Int.gcd_dvd_right ..)
  · exact Int.gcd_ediv_gcd_ediv_gcd g0
  · obtain ⟨x, ex⟩ := Int.gcd_dvd_left (a := n) (b := d)
    obtain ⟨y, ey⟩ := Int.gcd_dvd_right (a := n) (b := d)
    generalize ((Int.gcd n d : Nat) : Int) = g at *
    have gn : g ≠ 0 := by
      intro z
      subst z
      simp at ey
      omega
    have q1 : n / g = x := by rw [ex, Int.mul_ediv_cancel_left _ gn]
    have q2 : d / g = y := by rw [ey, Int.mul_ediv_cancel_left _ gn]
    rw [q1, q2, ex, ey]
    grind
def fs_rinit (K : Frag) : F3 := fun a b c H Q E => ∃ (x dx : Addr) (H0 : Hp) (n d : Int), a = .ref x ∧ b = .int n ∧ c = .int d ∧ H = upd (upd H0 dx (.own x)) x (.ins (He.ga K "Ratio") dx []) ∧ H0 x = none ∧ H0 dx = none ∧ dx ≠ x ∧ Bits 8999 d ∧
  (d ≠ 0 → ∀ H', Same H0 H' → IsR K H' x (rt n d) (rb n d) → Q .non H') ∧ (d = 0 → ∀ H', Same H0 H' → E (.ref (He.ga K "ZeroBottom")) none H')
section
variable {K : Frag} {H : Hp} {Q : VK} {E : XK}
/-- Ratio(n, d) -/
theorem z_mkR {n d : Int} (hd : d ≠ 0) (hb : Bits 8999 d) (k : ∀ p H', Same H H' → IsR K H' p (rt n d) (rb n d) → Q (.ref p) H') :
    ∀ x dx, H x = none → H dx = none → dx ≠ x → sp3 (fs_rinit K) [.ref x, .int n, .int d] (upd (upd H dx (.own x)) x (.ins (He.ga K "Ratio") dx [])) (fun v H2 => v = .non ∧ Q (.ref x) H2) E :=
  fun x dx hx hdx ne => ⟨_, _, _, rfl, x, dx, H, n, d, rfl, rfl, rfl, rfl, hx, hdx, ne, hb, fun _ H' e r => ⟨rfl, k x H' e r⟩, fun z => absurd z hd⟩
/-- the two stores -/
theorem run_rinit {D : Ends} {σ : L2.St} {x dx : Addr} {H0 : Hp} {C : Addr} {tv tu : TE} {a b : V} (cl : Cls K C) (n1 : NoAttr K C "top") (n2 : NoAttr K C "bottom") (h0 : H0 x = none) (h1 : H0 dx = none) (ne : dx ≠ x) (s0 : σ[0]? = some (some (.ref x)))
    (e1 : ∀ H1, ∀ Q : VK, Q a H1 → tv σ H1 Q) (e2 : ∀ H1, ∀ Q : VK, Q b H1 → tu σ H1 Q) (k : ∀ H', Same H0 H' → H' x = some (.ins C dx (rF a b)) → D.nx σ H') :
    tSeq (sFld K (tVar 0) tv "top") (sFld K (tVar 0) tu "bottom") D σ (upd (upd H0 dx (.own x)) x (.ins C dx [])) := by
  refine e1 _ _ ⟨_, s0, x, C, dx, _, rfl, upd_same, cl, n1, by decide, ?_⟩
  refine e2 _ _ ⟨_, s0, x, C, dx, _, rfl, upd_same, cl, n2, by show 1 < 1000; decide, ?_⟩
  refine k _ (fun y o hy => ?_) ?_
  · rw [upd_ne (ne_of_none hy h0), upd_ne (ne_of_none hy h0), upd_ne (ne_of_none hy h0), upd_ne (ne_of_none hy h1)]
    exact hy
  · rw [upd_same]
    have e : putF "bottom" b (putF "top" a []) = rF a b := by
      show (if ("top" : Str) = "bottom" then _ else (("top" : Str), a) :: putF "bottom" b []) = _
      rw [if_neg tb_ne]
      rfl
    rw [e]
end
end Z
namespace Z
open PySem PySem.Spec PyProof.Rows L2
section
variable {K : Frag} {x qual : Str} {params : Arguments} {body : List Stmt} {scope : Scope} {dvs : List V} {kws : List (Str × V)} {f : Addr} {fd : FuncData} {ps : List Str}
/-- called with keywords in the reversed order, no defaults -/
theorem kbN (F : FunD K x qual params body scope [] kws f fd) (n : Nat) (ks : List Str)
    (h : ∀ (kV doc pm : Value) (an : Option Addr) (cdv ct : Value) (us ws : List Value), us.length = n → ws.length = ks.length → bindArgs (PySem.W.fnOf x qual params body scope .none kV doc pm an cdv ct) ⟨us, ks.zip ws⟩ = pure (ps.zip (us ++ ws.reverse))) :
    KBn K fd ps n ks (fun us ws => us ++ ws.reverse) (fun vs zs => vs ++ zs.reverse) := by
  obtain ⟨oc, od, dV, kV, doc, pm, an, cdv, ct, osl, rfl, lk, hcd, hD, hK⟩ := F.ex
  rcases hD with ⟨_, rfl⟩ | ⟨e, _⟩
  · exact ⟨fun s us ws _ l1 l2 => .of_eq (h kV doc pm an cdv ct us ws l1 l2), fun r1 r2 => r1.append r2.reverse⟩
  · exact absurd rfl e
end
end Z
set_option maxHeartbeats 4000000
namespace Z
open PySem PySem.Spec PyProof.Rows L2
section
variable {K : Frag} {σ : L2.St} {H : Hp} {Q : VK} {v : V} {ta tb te : TE} {t : TA} {sp : Sp} {dvs : List V} {W : WX} {C : Addr} {m : Str} {E : XK}
/-- a class is made of these values -/
def zMk (C : Addr) (sp : Sp) (dvs : List V) (E : XK) (vs : List V) (H : Hp) (Q : VK) : Prop := ∀ x dx, H x = none → H dx = none → dx ≠ x → sp (.ref x :: (vs ++ dvs)) (upd (upd H dx (.own x)) x (.ins C dx [])) (fun v H2 => v = .non ∧ Q (.ref x) H2) E
theorem z_mk (q : t σ H fun vs H1 => zMk C sp dvs (fun cls d H' => W cls d σ H') vs H1 Q) : tMakeW C sp dvs W t σ H Q := q
/-- a method of this value -/
def zMt (C : Addr) (m : Str) (x : V) (H : Hp) (R : Prop) : Prop := ∃ a dx fs, x = .ref a ∧ H a = some (.ins C dx fs) ∧ fs.lookup m = none ∧ R
theorem z_mt (q : ta σ H fun x H1 => zMt C m x H1 (t σ H1 fun vs H2 => sp (x :: (vs ++ dvs)) H2 Q (fun cls d H' => W cls d σ H'))) : tMethW C m sp dvs W ta t σ H Q := q
theorem z_mtR {p : Addr} {a b : Int} {R : Prop} (h : IsR K H p a b) (q : R) (h1 : ¬ m = "top" := by decide +kernel) (h2 : ¬ m = "bottom" := by decide +kernel) : zMt (He.ga K "Ratio") m (.ref p) H R := h.elim fun dx hp => ⟨p, dx, _, rfl, hp, rf_no h1 h2, q⟩
theorem z_ownI {i : Int} {u : V → Hp → VK → Prop} (q : u (.int i) H Q) : rOr1 u (rOwn1 C sp E) (.int i) H Q := .inl q
/-- numbers of up to 200 bits -/
theorem bits_of {i : Int} (h1 : -1606938044258990275541962092341162602522202993782792835301376 < i) (h2 : i < 1606938044258990275541962092341162602522202993782792835301376) : Bits 200 i := by
  unfold Bits
  have e : (2 : Nat) ^ 200 = 1606938044258990275541962092341162602522202993782792835301376 := by decide
  omega
theorem bits_up {i : Int} {a b : Nat} (h : Bits a i) (hb : a ≤ b) : Bits b i := Nat.lt_of_lt_of_le h (Nat.pow_le_pow_right (by decide) hb)
theorem z_mulW {i j : Int} (h1 : -1606938044258990275541962092341162602522202993782792835301376 < i) (h2 : i < 1606938044258990275541962092341162602522202993782792835301376) (h3 : -1606938044258990275541962092341162602522202993782792835301376 < j) (h4 : j < 1606938044258990275541962092341162602522202993782792835301376) (q : Q (.int (i * j)) H) : zMul (.int i) (.int j) H Q :=
  z_mulB (bits_of h1 h2) (bits_of h3 h4) (by decide) (by decide) (by decide) q
theorem z_divW {i j : Int} (h : 0 < j) (h2 : j < 1606938044258990275541962092341162602522202993782792835301376) (q : Q (.int (i / j)) H) : zDiv (.int i) (.int j) H Q := z_div h (bits_of (by omega) h2) (by decide) (by decide) q
/-- isinstance of a Ratio -/
theorem z_isR {p : Addr} {a b : Int} {C2 : Addr} {c : Bool} (I : InsK K (He.ga K "Ratio")) (hk : PySem.W.kitOne K (.ref (He.ga K "Ratio")) (.ref C2) = some c) (h : IsR K H p a b) (q : Q (.bl c) H) : rIsi K [.ref p, .ref C2] H Q := by
  obtain ⟨dx, hp⟩ := h
  exact z_isi (.own C2) (I.ty hp) hk q
def zRg (g : TG) (tb : TS) (D : Ends) (σ : L2.St) (vs : List V) (H1 : Hp) : Prop := ∃ i j : Int, vs = [.int i, .int j] ∧ (-(2 ^ 62) ≤ i ∧ i < 2 ^ 62 ∧ -(2 ^ 62) ≤ j ∧ j < 2 ^ 62) ∧ ∃ W : Nat → Nat → L2.St → Hp → Prop, (∃ m, W 0 m σ H1) ∧ ∀ k m σ H, W k m σ H →
    ((Itr i (j - i).toNat).stop k H ∧ D.nx σ H) ∨ ((Itr i (j - i).toNat).go k H ∧ ∃ N : L2.St → Hp → Prop, (∀ σ' H', N σ' H' → ∃ m', m' < m ∧ W (k + 1) m' σ' H') ∧ ∀ x H', (Itr i (j - i).toNat).yld k H x H' → g x σ H' fun σ2 H2 => tb { D with nx := N, ct := N, bk := D.nx } σ2 H2)
theorem z_for2 {g : TG} {tb : TS} {D : Ends} (q : t σ H fun vs H1 => zRg g tb D σ vs H1) : tFor (iRng2 t) g tb D σ H := q
/-- an exception with two fields is made -/
def zMkO (C : Addr) (sp : Sp) (dvs : List V) (vs : List V) (H1 : Hp) (Q : XK) : Prop := vs.length ≤ 1000 ∧ ∀ a, H1 a = none → sp (.ref a :: (vs ++ dvs)) (upd H1 a (exo a C none)) (fun v H2 => v = .non ∧ ∃ (d : Addr) (fs : List (Str × V)), H2 a = some (exo a C (some d)) ∧ H2 d = some (exd d fs) ∧ H1 d = none ∧ Q (.ref C) (some d) (upd (del H2 a) d (.xd fs))) (fun _ _ _ => False)
theorem z_mko {Q : XK} (q : t σ H fun vs H1 => zMkO C sp dvs vs H1 Q) : tMkO C sp dvs t σ H Q := q
theorem z_exo1 {c f : Str} {u : V} {Q : XK} (k : ∀ (d : Addr) (H' : Hp), Same H H' → H' d = some (.xd [(f, u)]) → Q (.ref (He.ga K c)) (some d) H') : zMkO (He.ga K c) (sp2 (fs_ex1 K c f)) [] [u] H Q :=
  ⟨by show 1 ≤ 1000; decide, fun a ha => ⟨_, _, rfl, a, H, rfl, rfl, ha, fun d H' e1 e2 hd s => ⟨rfl, d, _, e1, e2, hd, k d _ s upd_same⟩⟩⟩
end
end Z
namespace Z
open PySem PySem.Spec PyProof.Rows L2
section
variable {K : Frag} {σ : L2.St} {H : Hp} {Q : VK} {ta : TE} {t : TA} {g : TG}
/-- a tuple, a list just made -/
theorem z_newT {xs : List V} (hn : xs.length ≤ 16777216) (k : ∀ p, H p = none → Same H (upd H p (.tup xs)) → upd H p (.tup xs) p = some (.tup xs) → Q (.ref p) (upd H p (.tup xs))) : xs.length ≤ sizeLine ∧ ∀ p, H p = none → Q (.ref p) (upd H p (.tup xs)) :=
  z_new (t := .tup) hn k
theorem z_gn {i : Nat} {v : V} {D : L2.St → Hp → Prop} (q : D (σ.set i (some v)) H) : gName i v σ H D := q
theorem z_gcons {u : TGs} {v : V} {vs : List V} {D : L2.St → Hp → Prop} (q : g v σ H fun σ' H' => u vs σ' H' D) : gCons g u (v :: vs) σ H D := ⟨v, vs, rfl, q⟩
theorem z_gnil {D : L2.St → Hp → Prop} (q : D σ H) : gNil [] σ H D := ⟨rfl, q⟩
/-- a tuple taken apart -/
theorem z_gtup {D : L2.St → Hp → Prop} {p : Addr} {xs : List V} {n : Nat} {ts : TGs} (h : H p = some (.tup xs)) (hl : xs.length = n) (q : ts xs σ H D) : gTup K n ts (.ref p) σ H D := ⟨p, xs, rfl, SqT.of h, hl, q⟩
/-- two ends: a tuple of two tuples -/
def IsE (H : Hp) (e : Addr) (lt lb ht hb : Int) : Prop := ∃ a b, H e = some (.tup [.ref a, .ref b]) ∧ H a = some (.tup [.int lt, .int lb]) ∧ H b = some (.tup [.int ht, .int hb])
theorem IsE.mono {H' : Hp} {e : Addr} {lt lb ht hb : Int} (s : Same H H') (h : IsE H e lt lb ht hb) : IsE H' e lt lb ht hb := by
  obtain ⟨a, b, h1, h2, h3⟩ := h
  exact ⟨a, b, s _ _ h1, s _ _ h2, s _ _ h3⟩
def zNewT (xs : List V) (H : Hp) (Q : VK) : Prop := xs.length ≤ sizeLine ∧ ∀ p, H p = none → Q (.ref p) (upd H p (.tup xs))
def zNewL (xs : List V) (H : Hp) (Q : VK) : Prop := xs.length ≤ sizeLine ∧ ∀ p, H p = none → Q (.ref p) (upd H p (.lst xs))
theorem z_tupN (q : t σ H fun xs H1 => zNewT xs H1 Q) : tTup t σ H Q := q
theorem z_lstN (q : t σ H fun xs H1 => zNewL xs H1 Q) : tLst t σ H Q := q
theorem z_asgG {te : TE} {D : Ends} (q : te σ H fun x H1 => g x σ H1 D.nx) : tAsg te g D σ H := q
/-- the new heap under its own name -/
theorem z_nt {xs : List V} (hn : xs.length ≤ 16777216) (k : ∀ p H', H p = none → Same H H' → H' p = some (.tup xs) → Q (.ref p) H') : zNewT xs H Q :=
  z_newT hn fun p h1 h2 h3 => k p _ h1 h2 h3
end
end Z
set_option maxHeartbeats 4000000
namespace Z
open PySem PySem.Spec PyProof.Rows L2
section
variable {K : Frag} {σ : L2.St} {H : Hp} {Q : VK} {te : TE} {t tk : TA} {sp : Sp} {E : XK}
theorem z_nlR {xs : List V} (hn : xs.length ≤ 16777216) (k : ∀ p H', H p = none → Same H H' → H' p = some (.lst xs) → Q (.ref p) H') : zNewL xs H Q :=
  z_new (t := .lst) hn fun p h1 h2 h3 => k p _ h1 h2 h3
theorem z_p6 (q : Q (.int 1000000) H) : zPow (.int 10) (.int 6) H Q := z_pow ⟨by decide, by decide, by decide⟩ q
theorem z_p12 (q : Q (.int 1000000000000) H) : zPow (.int 10) (.int 12) H Q := z_pow ⟨by decide, by decide, by decide⟩ q
theorem z_p13 (q : Q (.int 10000000000000) H) : zPow (.int 10) (.int 13) H Q := z_pow ⟨by decide, by decide, by decide⟩ q
theorem z_calln {n m : Nat} {gV : List V → List V → List V} (q : t σ H fun vs H1 => tk σ H1 fun zs H2 => vs.length = n ∧ zs.length = m ∧ sp (gV vs zs) H2 Q E) : tCallN n m sp gV E t tk σ H Q := q
/-- a field of the caught exception -/
def zXf (a : Addr) (cls : Value) (d : Option Addr) (C : Addr) (f : Str) (x : V) (H : Hp) (Q : VK) : Prop := x = .ref a ∧ cls = .ref C ∧ ∃ (dd : Addr) (fs : List (Str × V)) (v : V), d = some dd ∧ H dd = some (.xd fs) ∧ fs.lookup f = some v ∧ Q v H
theorem z_xfS {a : Addr} {cls : Value} {d : Option Addr} {C : Addr} {f : Str} (q : te σ H fun x H1 => zXf a cls d C f x H1 Q) : tXf a cls d C f te σ H Q := q
theorem z_xf {a d C : Addr} {f : Str} {fs : List (Str × V)} {v : V} (h : H d = some (.xd fs)) (l : fs.lookup f = some v) (q : Q v H) : zXf a (.ref C) (some d) C f (.ref a) H Q := ⟨rfl, rfl, d, fs, v, rfl, h, l, q⟩
/-- isinstance of the caught exception -/
theorem z_isX {a d D C : Addr} {fs : List (Str × V)} {b : Bool} (h : H d = some (.xd fs)) (hk : PySem.W.kitOne K (.ref D) (.ref C) = some b) (q : Q (.bl b) H) :
    (.ref D : Value) = .ref D ∧ (∀ dd, some d = some dd → ∃ fs, H dd = some (.xd fs)) ∧ rIsX K D a [.ref a, .ref C] H Q :=
  ⟨rfl, fun dd e => by cases e; exact ⟨fs, h⟩, _, _, b, rfl, .own C, hk, q⟩
/-- a caught exception goes into the clause -/
theorem z_as {cls c : Value} {i : Nat} {ts : Addr → Value → Option Addr → TS} {Wout : WX} {D : Ends} {d : Option Addr} (hk : PySem.W.exmOne K cls c = some true)
    (q : ∀ a, H a = none → ts a cls d { nx := fun σ' H' => D.nx (σ'.set i none) H', rt := D.rt, bk := fun σ' H' => D.bk (σ'.set i none) H', ct := fun σ' H' => D.ct (σ'.set i none) H' } (σ.set i (some (.ref a))) H) : wAs K c i ts Wout D cls d σ H :=
  ⟨true, hk, fun _ => q, fun z => nomatch z⟩
end
/-- indexing, the fragment under its own name -/
theorem ix_seqK {X : Cx} {K : Frag} (h : X.K = K) : IxR X (rIx K) := by subst h; exact ix_seq
/-- the law's promise -/
def fs_law (K : Frag) : F1 := fun a H Q _ => ∃ (p : Addr) (ns : List Int), a = .ref p ∧ SqL K H p (ns.map V.int) ∧ ns.length ≤ 63 ∧ ∀ H', Q (.bl true) H'
theorem law_quiet {P : Program} {w : World} {K : Frag} {mg : Str → Option Value} {base : Heap} {j k : Nat} {f : Addr} {fd : FuncData} {ps : List Str} (F : FnOk P w K mg base (L2N.CX P w) j f fd ps (sp1 (fs_law K))) (h : j ≤ k) : FnOk P w K mg base L2.CX0 k f fd ps (sp1 (fs_law K)) :=
  (fn_quiet F fun _ _ _ _ h => h).mono h
theorem cut63 {ns : List Int} (h : ns.length ≤ 63) : cutV (ns.map V.int) none (some 63) = ns.map V.int := by
  have hl : (ns.map V.int).length ≤ 63 := by rw [List.length_map]; exact h
  generalize ns.map V.int = xs at *
  have e : HT.sIx xs.length xs.length (some 63) = xs.length := by
    have q := HT.sIx_nat xs.length xs.length 63
    rw [show ((63 : Nat) : Int) = 63 from rfl] at q
    rw [q]
    omega
  unfold cutV
  rw [e, HT.sIx_none, Nat.sub_zero, List.drop_zero, List.take_length]
end Z
set_option maxHeartbeats 4000000
namespace Z
open PySem PySem.Spec PyProof.Rows L2
section
variable {X : Cx}
def zCat : R2 := rOr zAdd rCat
def zRep : R2 := rOr zMul rRep
theorem o_cat : OpR X (binaryOp .Add) zCat := op_or2 o_add op_cat
theorem o_rep : OpR X (binaryOp .Mult) zRep := op_or2 o_mul op_rep
end
section
variable {K : Frag} {σ : L2.St} {H : Hp} {Q : VK} {a b : Addr} {xs ys : List V}
theorem lkA {f : Str} {v : V} {r : List (Str × V)} : ((f, v) :: r).lookup f = some v := by rw [lookup_put, if_pos rfl]
theorem z_catI {i j : Int} (q : Q (.int (i + j)) H) : zCat (.int i) (.int j) H Q := .inl (z_add q)
theorem z_cat (h1 : H a = some (.lst xs)) (h2 : H b = some (.lst ys)) (hn : xs.length + ys.length ≤ 16777216) (k : ∀ p H', H p = none → Same H H' → H' p = some (.lst (xs ++ ys)) → Q (.ref p) H') : zCat (.ref a) (.ref b) H Q :=
  .inr ⟨a, b, xs, ys, rfl, rfl, h1, h2, by rw [sizeLine_eq]; exact hn, fun p hp => k p _ hp (Same.new hp) upd_same⟩
theorem z_repL {i j : Int} (h1 : -18446744073709551616 < i) (h2 : i < 18446744073709551616) (q : Q (.int (i * j)) H) : zRep (.int i) (.int j) H Q := .inl (z_mulL h1 h2 q)
theorem z_repR {i j : Int} (h1 : -18446744073709551616 < j) (h2 : j < 18446744073709551616) (q : Q (.int (i * j)) H) : zRep (.int i) (.int j) H Q := .inl (z_mulR h1 h2 q)
/-- [x] * n -/
theorem z_rep1 {x : V} {n : Int} (h : H a = some (.lst [x])) (h1 : -9223372036854775808 ≤ n) (h2 : n ≤ 16777216) (k : ∀ p H', H p = none → Same H H' → H' p = some (.lst (List.replicate n.toNat x)) → Q (.ref p) H') : zRep (.ref a) (.int n) H Q := by
  refine .inr ⟨a, n, _, rfl, rfl, h, by omega, by omega, ?_, fun p hp => ?_⟩
  · rw [sizeLine_eq]
    show 1 * n.toNat ≤ 16777216
    omega
  · have e : (List.replicate n.toNat [x]).flatten = List.replicate n.toNat x := by simp
    rw [e]
    exact k p _ hp (Same.new hp) upd_same
/-- len, list(), tuple(), any() of a list -/
theorem z_lenLst (h : H a = some (.lst xs)) (q : Q (.int (xs.length : Int)) H) : rLen1 K [.ref a] H Q := z_lenL (SqL.of h) q
def rTup1 (K : Frag) : List V → Hp → VK → Prop := fun xs H Q => ∃ p ys, xs = [.ref p] ∧ ((SqL K H p ys ∧ ∀ l, H l = none → Q (.ref l) (upd H l (.tup ys))) ∨ (SqT K H p ys ∧ Q (.ref p) H))
/-- a slice of a list -/
theorem z_sll {lo hi : Option Int} (h : H a = some (.lst xs)) (k : ∀ p H', H p = none → Same H H' → H' p = some (.lst (cutV xs lo hi)) → Q (.ref p) H') : rSlL K (.ref a) lo hi H Q := ⟨a, xs, rfl, SqL.of h, fun p hp => k p _ hp (Same.new hp) upd_same⟩
theorem z_tsl {r : V → Option Int → Option Int → Hp → VK → Prop} {te : TE} {tl th : TO} (q : te σ H fun x H1 => tl σ H1 fun l H2 => th σ H2 fun u H3 => r x l u H3 Q) : tSl r te tl th σ H Q := q
theorem z_np {QO : Option Int → Hp → Prop} (q : QO none H) : tNoPart σ H QO := q
theorem z_pt {te : TE} {QO : Option Int → Hp → Prop} (q : te σ H fun x H1 => ∃ i, x = .int i ∧ QO (some i) H1) : tPart te σ H QO := q
theorem z_pti {i : Int} {P : Int → Prop} (q : P i) : ∃ j, V.int i = .int j ∧ P j := ⟨i, rfl, q⟩
theorem cut_hi {n : Nat} {xs : List V} : cutV xs none (some (n : Int)) = xs.take n := by
  unfold cutV
  rw [HT.sIx_nat, HT.sIx_none, Nat.sub_zero, List.drop_zero]
  by_cases h : n ≤ xs.length
  · rw [Nat.min_eq_left h]
  · rw [Nat.min_eq_right (by omega), List.take_length, List.take_of_length_le (by omega)]
theorem cut_lo {n : Nat} {xs : List V} : cutV xs (some (n : Int)) none = xs.drop n := by
  unfold cutV
  rw [HT.sIx_nat, HT.sIx_none]
  by_cases h : n ≤ xs.length
  · rw [Nat.min_eq_left h, List.take_of_length_le (by rw [List.length_drop]; omega)]
  · rw [Nat.min_eq_right (by omega), Nat.sub_self, List.take_zero, List.drop_eq_nil_of_le (by omega)]
end
section
variable {K : Frag} {σ : L2.St} {H1 : Hp} {Q : VK} {te : TE} {i j : Nat} {t : TA}
/-- what a comprehension's body is to give: the new list at D within -/
def zLc (J : It) (g : TG) (tt : TT) (te : TE) (vs : List Nat) (σ : L2.St) (H1 : Hp) (Q : VK) : Prop := ∀ D, H1 D = none → ∃ W : Nat → Nat → Hp → Prop, (∃ m, W 0 m (upd H1 D (.lst []))) ∧ ∀ i m H, W i m H →
  (J.stop i H ∧ Q (.ref D) H) ∨ (J.go i H ∧ ∃ Nx : Hp → Prop, (∀ H', Nx H' → ∃ m', m' < m ∧ W (i + 1) m' H') ∧ ∀ x H', J.yld i H x H' → g x (wipe σ vs) H' fun σ2 H2 => wipe σ2 vs = wipe σ vs ∧ tt σ2 H2 fun b H3 =>
    if b = true then te σ2 H3 fun y H4 => ∃ acc, H4 D = some (.lst acc) ∧ acc.length < sizeLine ∧ Nx (upd H4 D (.lst (acc ++ [y]))) else Nx H3)
/-- each turn gives f of its number, all that stood stands -/
theorem z_lcF {J : It} {n : Nat} {G : Hp → Prop} {Y : Nat → Hp → V → Hp → Prop} {g : TG} {vs : List Nat} (w : Walk J n G Y) (f : Nat → V) (hn : n ≤ 16777216) (hG : ∀ H', Same H1 H' → G H')
    (hs : ∀ k x H H' (N : VK), k < n → Same H1 H → Y k H x H' → (∀ H4, Same H H4 → N (f k) H4) → g x (wipe σ vs) H' fun σ2 H2 => wipe σ2 vs = wipe σ vs ∧ te σ2 H2 N)
    (k : ∀ D H', H1 D = none → Same H1 H' → H' D = some (.lst ((List.range n).map f)) → Q (.ref D) H') : zLc J g tYes te vs σ H1 Q := fun D hD => by
  refine lc_it w (fun i H => Same H1 H ∧ H D = some (.lst ((List.range i).map f))) ⟨Same.new hD, upd_same⟩ (fun i H hi p => hG H p.1) (fun i x H H' hi p y => ?_) (fun H p => k D H hD p.1 p.2)
  refine hs i x H H' _ hi p.1 y (fun H4 s4 => ?_)
  refine ⟨_, s4 _ _ p.2, ?_, ?_, ?_⟩
  · rw [List.length_map, List.length_range, sizeLine_eq]
    omega
  · intro b o hb
    rw [upd_ne (ne_of_none hb hD)]
    exact s4 _ _ (p.1 _ _ hb)
  · rw [upd_same, List.range_succ, List.map_append]
    rfl
def zLcL (K : Frag) (g : TG) (tt : TT) (te : TE) (vs : List Nat) (σ : L2.St) (x : V) (H1 : Hp) (Q : VK) : Prop := ∃ a, x = .ref a ∧ (∃ xs, SqL K H1 a xs) ∧ zLc (Itl K a) g tt te vs σ H1 Q
theorem z_lcS {g : TG} {tt : TT} {t : TE} {vs : List Nat} (q : t σ H1 fun x H2 => zLcL K g tt te vs σ x H2 Q) : tLc (iList K t) g tt te vs σ H1 Q := q
/-- over a range -/
def zLcR (g : TG) (tt : TT) (te : TE) (vs : List Nat) (σ : L2.St) (xs : List V) (H1 : Hp) (Q : VK) : Prop := ∃ j : Int, xs = [.int j] ∧ -(2 ^ 62) ≤ j ∧ j < 2 ^ 62 ∧ zLc (Itr 0 j.toNat) g tt te vs σ H1 Q
theorem z_lcRS {g : TG} {tt : TT} {t : TA} {vs : List Nat} (q : t σ H1 fun xs H2 => zLcR g tt te vs σ xs H2 Q) : tLc (iRng1 t) g tt te vs σ H1 Q := q
/-- over two lists of numbers at once -/
def zLcZ (K : Frag) (g : TG) (tt : TT) (te : TE) (vs : List Nat) (σ : L2.St) (xs : List V) (H1 : Hp) (Q : VK) : Prop := ∃ a b ys zs, xs = [.ref a, .ref b] ∧ SqL K H1 a ys ∧ SqL K H1 b zs ∧ zLc (Itz K a b) g tt te vs σ H1 Q
theorem z_lcZS {g : TG} {tt : TT} {t : TA} {vs : List Nat} (q : t σ H1 fun xs H2 => zLcZ K g tt te vs σ xs H2 Q) : tLc (iZip K t) g tt te vs σ H1 Q := q
/-- a loop over a list of numbers: I by the turn -/
def zFoL (K : Frag) (g : TG) (tb : TS) (D : Ends) (σ : L2.St) (x : V) (H1 : Hp) : Prop := ∃ a, x = .ref a ∧ (∃ xs, SqL K H1 a xs) ∧ ∃ W : Nat → Nat → L2.St → Hp → Prop, (∃ m, W 0 m σ H1) ∧ ∀ k m σ H, W k m σ H →
    ((Itl K a).stop k H ∧ D.nx σ H) ∨ ((Itl K a).go k H ∧ ∃ N : L2.St → Hp → Prop, (∀ σ' H', N σ' H' → ∃ m', m' < m ∧ W (k + 1) m' σ' H') ∧ ∀ x H', (Itl K a).yld k H x H' → g x σ H' fun σ2 H2 => tb { D with nx := N, ct := N, bk := D.nx } σ2 H2)
theorem z_foS {g : TG} {tb : TS} {D : Ends} {t : TE} (q : t σ H1 fun x H2 => zFoL K g tb D σ x H2) : tFor (iList K t) g tb D σ H1 := q
theorem z_foV {g : TG} {tb : TS} {D : Ends} {a : Addr} {xs : List V} (h : H1 a = some (.lst xs)) (I : Nat → L2.St → Hp → Prop) (h0 : I 0 σ H1) (hl : ∀ k σ H, I k σ H → H a = some (.lst xs))
    (hs : ∀ k x σ H, xs[k]? = some x → I k σ H → g x σ H fun σ2 H2 => tb { D with nx := I (k + 1), ct := I (k + 1), bk := D.nx } σ2 H2) (hd : ∀ σ H, I xs.length σ H → D.nx σ H) : zFoL K g tb D σ (.ref a) H1 :=
  ⟨a, rfl, ⟨_, SqL.of h⟩, for_it (walk_list (K := K) (a := a) (xs := xs)) I h0 (fun k σ H _ p => SqL.of (hl k σ H p)) (fun k x σ H H' _ p y => by
    obtain ⟨rfl, hx⟩ := y
    exact hs k x σ H' hx p) hd⟩
/-- a loop over range(n): I by the turn -/
def zFoR (g : TG) (tb : TS) (D : Ends) (σ : L2.St) (vs : List V) (H1 : Hp) : Prop := ∃ j : Int, vs = [.int j] ∧ -(2 ^ 62) ≤ j ∧ j < 2 ^ 62 ∧ ∃ W : Nat → Nat → L2.St → Hp → Prop, (∃ m, W 0 m σ H1) ∧ ∀ k m σ H, W k m σ H →
    ((Itr 0 j.toNat).stop k H ∧ D.nx σ H) ∨ ((Itr 0 j.toNat).go k H ∧ ∃ N : L2.St → Hp → Prop, (∀ σ' H', N σ' H' → ∃ m', m' < m ∧ W (k + 1) m' σ' H') ∧ ∀ x H', (Itr 0 j.toNat).yld k H x H' → g x σ H' fun σ2 H2 => tb { D with nx := N, ct := N, bk := D.nx } σ2 H2)
theorem z_for1 {g : TG} {tb : TS} {D : Ends} (q : t σ H1 fun vs H2 => zFoR g tb D σ vs H2) : tFor (iRng1 t) g tb D σ H1 := q
theorem z_foR {g : TG} {tb : TS} {D : Ends} {n : Int} (h1 : -4611686018427387904 ≤ n) (h2 : n < 4611686018427387904) (I : Nat → L2.St → Hp → Prop) (h0 : I 0 σ H1)
    (hs : ∀ (k : Nat) σ H, k < n.toNat → I k σ H → g (.int k) σ H fun σ2 H2 => tb { D with nx := I (k + 1), ct := I (k + 1), bk := D.nx } σ2 H2) (hd : ∀ σ H, I n.toNat σ H → D.nx σ H) : zFoR g tb D σ [.int n] H1 :=
  ⟨n, rfl, by omega, by omega, for_it (walk_range (lo := 0) (n := n.toNat)) I h0 (fun _ _ _ _ _ => trivial) (fun k x σ H H' hk p y => by
    obtain ⟨rfl, rfl⟩ := y
    have e : (0 : Int) + (k : Int) = k := Int.zero_add _
    dsimp only
    rw [e]
    exact hs k σ H' hk p) hd⟩
end
section
variable {X : Cx} {K : Frag} {f : Value}
theorem callK (r : Frag → List V → Hp → VK → Prop) (h : X.K = K) (c : CallR X f (r X.K)) : CallR X f (r K) := by subst h; exact c
theorem slK (r : Frag → V → Option Int → Option Int → Hp → VK → Prop) (h : X.K = K) (c : SlR X (r X.K)) : SlR X (r K) := by subst h; exact c
theorem pi_listK {tg l : Expr} {tl : TE} (h : X.K = K) (hl : PE X l tl) : PI X tg l (iList K tl) := by subst h; exact pi_list hl
theorem pi_tupK {tg l : Expr} {tl : TE} (h : X.K = K) (hl : PE X l tl) : PI X tg l (iTup K tl) := by subst h; exact pi_tup hl
end
end Z
namespace Z
open PySem PySem.Spec PyProof.Rows L2
section
variable {K : Frag} {σ : L2.St} {H H' H1 : Hp} {Q : VK} {a p : Addr} {o : HO}
theorem z_isNI {i : Int} (q : Q (.bl false) H) : zIsN (.int i) .non H Q := z_isN (by simpa using q)
theorem z_isNN (q : Q (.bl true) H) : zIsN .non .non H Q := z_isN (by simpa using q)
theorem z_isNb (q : Q (.bl false) H) : zIsN (.ref a) .non H Q := z_isN (by simpa using q)
theorem z_notNI {i : Int} (q : Q (.bl true) H) : zNotN (.int i) .non H Q := z_notN (by simpa using q)
theorem z_notNN (q : Q (.bl false) H) : zNotN .non .non H Q := z_notN (by simpa using q)
theorem z_notNb (q : Q (.bl true) H) : zNotN (.ref a) .non H Q := z_notN (by simpa using q)
/-- o[i] = v -/
theorem z_gsub {to ti : TE} {t : TSet} {v : V} {D : L2.St → Hp → Prop} (q : to σ H fun o H1 => ti σ H1 fun i H2 => t o i v H2 fun H3 => D σ H3) : gSub to ti t v σ H D := q
/-- all stands but what lies at p -/
def But (p : Addr) (H H' : Hp) : Prop := ∀ a o, a ≠ p → H a = some o → H' a = some o
theorem But.of (e : Same H H') : But p H H' := fun a o _ h => e a o h
theorem But.trans (e : But p H H1) (f : But p H1 H') : But p H H' := fun a o ne h => f a o ne (e a o ne h)
theorem But.set : But p H (upd H p o) := fun a _ ne h => by rw [upd_ne ne]; exact h
/-- a list of numbers -/
def IsPool (H : Hp) (p : Addr) : Prop := ∃ ns : List Int, H p = some (.lst (ns.map V.int))
theorem IsPool.mono (e : Same H H') (h : IsPool H p) : IsPool H' p := h.elim fun ns q => ⟨ns, e _ _ q⟩
end
end Z
namespace Z
open PySem PySem.Spec PyProof.Rows L2
theorem z_tup1L {K : Frag} {H : Hp} {Q : VK} {a : Addr} {xs : List V} (h : H a = some (.lst xs)) (k : ∀ p H', H p = none → Same H H' → H' p = some (.tup xs) → Q (.ref p) H') : rTup1 K [.ref a] H Q :=
  ⟨a, xs, rfl, .inl ⟨SqL.of h, fun p hp => k p _ hp (Same.new hp) upd_same⟩⟩
end Z
namespace Z
open PySem PySem.Spec PyProof.Rows L2
section
variable {K : Frag} {σ : L2.St} {H : Hp} {Q : VK} {p C dx : Addr} {fs : List (Str × V)} {i : Nat} {f : Str} {v : V} {D : L2.St → Hp → Prop}
def zSfl (K : Frag) (i : Nat) (f : Str) (E : Ends) (σ : L2.St) (y : V) (H1 : Hp) : Prop := tVar i σ H1 fun x H2 => ∃ a C dx fs, x = .ref a ∧ H2 a = some (.ins C dx fs) ∧ Cls K C ∧ NoAttr K C f ∧ fs.length < 1000 ∧ E.nx σ (upd H2 a (.ins C dx (putF f y fs)))
theorem z_sfl {tv : TE} {E : Ends} (q : tv σ H fun y H1 => zSfl K i f E σ y H1) : sFld K (tVar i) tv f E σ H := q
end
end Z
namespace Z
open PySem PySem.Spec PyProof.Rows L2
section
variable {K : Frag} {H H' : Hp} {Q : VK} {p a : Addr} {xs : List V}
theorem IsPool.of {ns : List Int} (h : H p = some (.lst (ns.map V.int))) : IsPool H p := ⟨ns, h⟩
end
end Z
namespace Z
open PySem PySem.Spec PyProof.Rows L2
theorem Same.none {H H' : Hp} {a : Addr} (s : Same H H') (h : H' a = Option.none) : H a = Option.none := by
  cases e : H a with
  | none => rfl
  | some o =>
    rw [s _ _ e] at h
    cases h
end Z
set_option maxHeartbeats 4000000
namespace Z
open PySem PySem.Spec PyProof.Rows L2
end Z
set_option maxHeartbeats 4000000
namespace Z
open PySem PySem.Spec PyProof.Rows L2
end Z
set_option maxHeartbeats 4000000
namespace Z
open PySem PySem.Spec PyProof.Rows L2
/-- a list (false) or a tuple (true) -/
def SqK (K : Frag) (k : Bool) (H : Hp) (a : Addr) (xs : List V) : Prop := match k with
  | true => SqT K H a xs
  | false => SqL K H a xs
def ItK (k : Bool) (h : Heap) (it a : Addr) (i : Nat) : Prop := match k with
  | true => h.IsTupleIter it a i
  | false => h.IsListIter it a i
theorem ItK.obj {k : Bool} {h : Heap} {it a : Addr} {i : Nat} (e : ItK k h it a i) : ∃ o, h.get? it = some o ∧ ∀ v, o.data ≠ .cell v := by
  cases k
  · obtain ⟨o, q, _, d⟩ := e
    exact ⟨o, q, fun v z => by rw [d] at z; cases z⟩
  · obtain ⟨o, q, _, d⟩ := e
    exact ⟨o, q, fun v z => by rw [d] at z; cases z⟩
def ItZ (K : Frag) (k1 k2 : Bool) (a b : Addr) (xs ys : List V) : It :=
  ⟨fun i H => SqK K k1 H a xs ∧ SqK K k2 H b ys ∧ i < min xs.length ys.length,
    fun i H v H' => ∃ T x y, v = .ref T ∧ H T = none ∧ H' = upd H T (.tup [x, y]) ∧ xs[i]? = some x ∧ ys[i]? = some y,
    fun i H => SqK K k1 H a xs ∧ SqK K k2 H b ys ∧ i = min xs.length ys.length⟩
def iZipM (K : Frag) (ta : TA) : TI := fun σ H R => ta σ H fun vs H1 => ∃ (k1 k2 : Bool) (a b : Addr) (xs ys : List V), vs = [.ref a, .ref b] ∧ SqK K k1 H1 a xs ∧ SqK K k2 H1 b ys ∧ R (ItZ K k1 k2 a b xs ys) H1
theorem vals2 {a b : Addr} {us : List Value} (r : Vals [V.ref a, V.ref b] us) : us = [Value.ref a, Value.ref b] := by
  cases r with
  | cons r1 r =>
    cases r with
    | cons r2 r =>
      cases r
      cases r1
      cases r2
      rfl
def ItE (K : Frag) (k : Bool) (a : Addr) (xs : List V) : It :=
  ⟨fun i H => SqK K k H a xs ∧ i < xs.length, fun i H v H' => ∃ T x, v = .ref T ∧ H T = none ∧ H' = upd H T (.tup [.int (i : Nat), x]) ∧ xs[i]? = some x, fun i H => SqK K k H a xs ∧ i = xs.length⟩
def iEnumM (K : Frag) (ta : TA) : TI := fun σ H R => ta σ H fun vs H1 => ∃ (k : Bool) (a : Addr) (xs : List V), vs = [.ref a] ∧ SqK K k H1 a xs ∧ R (ItE K k a xs) H1
end Z
set_option maxHeartbeats 4000000
namespace Z
open PySem PySem.Spec PyProof.Rows L2
/-- all but lists stands -/
def SameN (H H' : Hp) : Prop := ∀ a o, H a = some o → (∀ xs, o ≠ .lst xs) → H' a = some o
theorem SameN.of {H H' : Hp} (s : Same H H') : SameN H H' := fun a o h _ => s a o h
theorem SameN.trans {H H1 H2 : Hp} (s : SameN H H1) (t : SameN H1 H2) : SameN H H2 := fun a o h n => t a o (s a o h n) n
theorem SameN.put {H : Hp} {l : Addr} {xs ys : List V} (h : H l = some (.lst xs)) : SameN H (upd H l (.lst ys)) := fun a o e n => by
  rw [upd_ne]
  · exact e
  · intro q
    rw [q, h] at e
    exact n xs (Option.some.inj e).symm
/-- a list of n items, each told by It -/
def Ls (H : Hp) (l : Addr) (n : Nat) (It : Hp → V → Nat → Prop) : Prop := ∃ xs, H l = some (.lst xs) ∧ xs.length = n ∧ ∀ k x, xs[k]? = some x → It H x k
def Mono (It : Hp → V → Nat → Prop) : Prop := ∀ H H' x k, SameN H H' → It H x k → It H' x k
theorem Ls.mono {H H' : Hp} {l : Addr} {n : Nat} {It : Hp → V → Nat → Prop} (m : Mono It) (s : Same H H') (h : Ls H l n It) : Ls H' l n It := by
  obtain ⟨xs, h1, h2, h3⟩ := h
  exact ⟨xs, s _ _ h1, h2, fun k x e => m _ _ _ _ (SameN.of s) (h3 k x e)⟩
theorem Ls.imp {H : Hp} {l : Addr} {n : Nat} {It Jt : Hp → V → Nat → Prop} (h : Ls H l n It) (i : ∀ x k, k < n → It H x k → Jt H x k) : Ls H l n Jt := by
  obtain ⟨xs, h1, h2, h3⟩ := h
  exact ⟨xs, h1, h2, fun k x e => i x k (by
    by_cases c : k < xs.length
    · omega
    · rw [List.getElem?_eq_none (by omega)] at e
      cases e) (h3 k x e)⟩
/-- one more item behind -/
theorem Ls.snoc {H : Hp} {l : Addr} {xs : List V} {y : V} {n : Nat} {It : Hp → V → Nat → Prop} (m : Mono It) (h1 : H l = some (.lst xs)) (h2 : xs.length = n) (h3 : ∀ k x, xs[k]? = some x → It H x k) (hy : It H y n) : Ls (upd H l (.lst (xs ++ [y]))) l (n + 1) It := by
  refine ⟨_, upd_same, by simp [h2], fun k x e => m _ _ _ _ (SameN.put h1) ?_⟩
  rw [List.getElem?_append] at e
  split at e
  · exact h3 k x e
  · rename_i c
    have : k = n := by
      by_cases q : k - xs.length = 0
      · omega
      · rw [List.getElem?_eq_none (by simp; omega)] at e
        cases e
    subst this
    rw [h2, Nat.sub_self] at e
    cases e
    exact hy
section
variable {K : Frag} {σ : L2.St} {H1 : Hp} {Q : VK} {te : TE} {i j : Nat}
/-- a comprehension whose turns give items told by It -/
theorem z_lcP {J : It} {n : Nat} {G : Hp → Prop} {Y : Nat → Hp → V → Hp → Prop} {g : TG} {vs : List Nat} (w : Walk J n G Y) (It : Hp → V → Nat → Prop) (m : Mono It) (hn : n ≤ 16777216) (hG : ∀ H', Same H1 H' → G H')
    (hs : ∀ k x H H' (N : VK), k < n → Same H1 H → Y k H x H' → (∀ y H4, Same H H4 → It H4 y k → N y H4) → g x (wipe σ vs) H' fun σ2 H2 => wipe σ2 vs = wipe σ vs ∧ te σ2 H2 N)
    (k : ∀ D H', H1 D = none → Same H1 H' → Ls H' D n It → Q (.ref D) H') : zLc J g tYes te vs σ H1 Q := fun D hD => by
  refine lc_it w (fun i H => Same H1 H ∧ Ls H D i It) ⟨Same.new hD, [], upd_same, rfl, fun k x e => by simp at e⟩ (fun i H hi p => hG H p.1) (fun i x H H' hi p y => ?_) (fun H p => k D H hD p.1 p.2)
  refine hs i x H H' _ hi p.1 y (fun y H4 s4 hy => ?_)
  obtain ⟨xs, h1, h2, h3⟩ := p.2.mono m s4
  refine ⟨_, h1, ?_, ?_, Ls.snoc m h1 h2 h3 hy⟩
  · rw [sizeLine_eq]
    omega
  · intro b o hb
    rw [upd_ne (ne_of_none hb hD)]
    exact s4 _ _ (p.1 _ _ hb)
/-- over any list -/
theorem z_lcVP {a : Addr} {xs : List V} (It : Hp → V → Nat → Prop) (m : Mono It) {vs : List Nat} (h : H1 a = some (.lst xs)) (hn : xs.length ≤ 16777216)
    (hs : ∀ k x H (N : VK), xs[k]? = some x → Same H1 H → (∀ y H4, Same H H4 → It H4 y k → N y H4) → wipe ((wipe σ vs).set i (some x)) vs = wipe σ vs ∧ te ((wipe σ vs).set i (some x)) H N)
    (k : ∀ D H', H1 D = none → Same H1 H' → Ls H' D xs.length It → Q (.ref D) H') : zLcL K (gName i) tYes te vs σ (.ref a) H1 Q := by
  refine ⟨a, rfl, ⟨_, SqL.of h⟩, ?_⟩
  refine z_lcP (walk_list (K := K) (a := a) (xs := xs)) It m hn (fun H' s => SqL.of (s _ _ h)) (fun k x H H' N hk s y c => ?_) k
  obtain ⟨rfl, hx⟩ := y
  exact hs k x H' N hx s c
/-- over any list, the values told -/
theorem z_lcVF {a : Addr} {xs : List V} (f : Nat → V) {vs : List Nat} (h : H1 a = some (.lst xs)) (hn : xs.length ≤ 16777216)
    (hs : ∀ k x H (N : VK), xs[k]? = some x → Same H1 H → (∀ H4, Same H H4 → N (f k) H4) → wipe ((wipe σ vs).set i (some x)) vs = wipe σ vs ∧ te ((wipe σ vs).set i (some x)) H N)
    (k : ∀ D H', H1 D = none → Same H1 H' → H' D = some (.lst ((List.range xs.length).map f)) → Q (.ref D) H') : zLcL K (gName i) tYes te vs σ (.ref a) H1 Q := by
  refine ⟨a, rfl, ⟨_, SqL.of h⟩, ?_⟩
  refine z_lcF (walk_list (K := K) (a := a) (xs := xs)) f hn (fun H' s => SqL.of (s _ _ h)) (fun k x H H' N hk s y c => ?_) k
  obtain ⟨rfl, hx⟩ := y
  exact hs k x H' N hx s c
/-- over enumerate -/
def zLcE (K : Frag) (g : TG) (tt : TT) (te : TE) (vs : List Nat) (σ : L2.St) (xs : List V) (H1 : Hp) (Q : VK) : Prop := ∃ (k : Bool) (a : Addr) (ys : List V), xs = [.ref a] ∧ SqK K k H1 a ys ∧ zLc (ItE K k a ys) g tt te vs σ H1 Q
theorem z_lcES {g : TG} {tt : TT} {t : TA} {vs : List Nat} (q : t σ H1 fun xs H2 => zLcE K g tt te vs σ xs H2 Q) : tLc (iEnumM K t) g tt te vs σ H1 Q := q
/-- over zip, lists and tuples -/
def zLcM (K : Frag) (g : TG) (tt : TT) (te : TE) (vs : List Nat) (σ : L2.St) (xs : List V) (H1 : Hp) (Q : VK) : Prop := ∃ (k1 k2 : Bool) (a b : Addr) (us ys : List V), xs = [.ref a, .ref b] ∧ SqK K k1 H1 a us ∧ SqK K k2 H1 b ys ∧ zLc (ItZ K k1 k2 a b us ys) g tt te vs σ H1 Q
theorem z_lcMS {g : TG} {tt : TT} {t : TA} {vs : List Nat} (q : t σ H1 fun xs H2 => zLcM K g tt te vs σ xs H2 Q) : tLc (iZipM K t) g tt te vs σ H1 Q := q
def zFoE (K : Frag) (g : TG) (tb : TS) (D : Ends) (σ : L2.St) (vs : List V) (H1 : Hp) : Prop := ∃ (k : Bool) (a : Addr) (xs : List V), vs = [.ref a] ∧ SqK K k H1 a xs ∧ ∃ W : Nat → Nat → L2.St → Hp → Prop, (∃ m, W 0 m σ H1) ∧ ∀ i m σ H, W i m σ H →
    ((ItE K k a xs).stop i H ∧ D.nx σ H) ∨ ((ItE K k a xs).go i H ∧ ∃ N : L2.St → Hp → Prop, (∀ σ' H', N σ' H' → ∃ m', m' < m ∧ W (i + 1) m' σ' H') ∧ ∀ x H', (ItE K k a xs).yld i H x H' → g x σ H' fun σ2 H2 => tb { D with nx := N, ct := N, bk := D.nx } σ2 H2)
theorem z_foES {g : TG} {tb : TS} {D : Ends} {t : TA} (q : t σ H1 fun vs H2 => zFoE K g tb D σ vs H2) : tFor (iEnumM K t) g tb D σ H1 := q
def zFo3 (g : TG) (tb : TS) (D : Ends) (σ : L2.St) (vs : List V) (H1 : Hp) : Prop := ∃ (a b c : Int) (n : Nat), vs = [.int a, .int b, .int c] ∧ RgC a b c n ∧ ∃ W : Nat → Nat → L2.St → Hp → Prop, (∃ m, W 0 m σ H1) ∧ ∀ k m σ H, W k m σ H →
    ((Itc a c n).stop k H ∧ D.nx σ H) ∨ ((Itc a c n).go k H ∧ ∃ N : L2.St → Hp → Prop, (∀ σ' H', N σ' H' → ∃ m', m' < m ∧ W (k + 1) m' σ' H') ∧ ∀ x H', (Itc a c n).yld k H x H' → g x σ H' fun σ2 H2 => tb { D with nx := N, ct := N, bk := D.nx } σ2 H2)
theorem z_fo3S {g : TG} {tb : TS} {D : Ends} {t : TA} (q : t σ H1 fun vs H2 => zFo3 g tb D σ vs H2) : tFor (iRng3 t) g tb D σ H1 := q
end
section
variable {K : Frag} {H : Hp} {Q : VK}
theorem Bits.mul {a b : Nat} {i j : Int} (ha : Bits a i) (hb : Bits b j) : Bits (a + b) (i * j) := by
  unfold Bits at *
  rw [Int.natAbs_mul, Nat.pow_add]
  exact Nat.mul_lt_mul'' ha hb
theorem Bits.add {a : Nat} {i j : Int} (ha : Bits a i) (hb : Bits a j) : Bits (a + 1) (i + j) := by
  unfold Bits at *
  rw [Nat.pow_succ]
  omega
theorem Bits.sub {a : Nat} {i j : Int} (ha : Bits a i) (hb : Bits a j) : Bits (a + 1) (i - j) := by
  unfold Bits at *
  rw [Nat.pow_succ]
  omega
theorem Bits.neg {a : Nat} {i : Int} (ha : Bits a i) : Bits a (-i) := by
  unfold Bits at *
  omega
theorem Bits.up {a b : Nat} {i : Int} (h : Bits a i) (hb : a ≤ b) : Bits b i := bits_up h hb
theorem Bits.le {a : Nat} {i j : Int} (h : Bits a j) (hi : i.natAbs ≤ j.natAbs) : Bits a i := Nat.lt_of_le_of_lt hi h
theorem Bits.small {i : Int} {n : Nat} (h1 : -(1 <<< n : Nat) < i) (h2 : i < (1 <<< n : Nat)) : Bits n i := by
  unfold Bits
  rw [Nat.one_shiftLeft] at h1 h2
  omega
theorem Bits.div {a : Nat} {i j : Int} (h : Bits a i) : Bits a (i / j) := by
  refine h.le ?_
  have := Int.natAbs_ediv_le_natAbs i j
  exact this
theorem Bits.gcd {a : Nat} {i j : Int} (h : Bits a j) (h0 : j ≠ 0) : Bits a ((Int.gcd i j : Nat) : Int) := by
  refine h.le ?_
  rw [Int.natAbs_natCast]
  exact Nat.le_of_dvd (by omega) (Int.gcd_dvd_natAbs_right ..)
theorem Bits.mod {a : Nat} {i j : Int} (h : Bits a j) (h0 : 0 < j) : Bits a (i % j) := by
  refine h.le ?_
  have := Int.emod_nonneg i (show j ≠ 0 by omega)
  have := Int.emod_lt_of_pos i h0
  omega
theorem z_repB {i j : Int} {a b : Nat} (ha : Bits a i) (hb : Bits b j) (h0 : 0 < a) (h1 : 0 < b) (h : a + b ≤ 1000000) (q : Q (.int (i * j)) H) : zRep (.int i) (.int j) H Q := .inl (z_mulB ha hb h0 h1 h q)
end
end Z
set_option maxHeartbeats 4000000
namespace Z
open PySem PySem.Spec PyProof.Rows L2
def seenK2 (fb : List Chk) (fn : List He5.DefA) (K : Frag) : SeenZ := ((fb.all fun c => c K) && fn.all fun d => d.ok K, fn.map fun d => He5.fnA K (d.at_ K))
def dueK2 (fn : List He5.DefA) : SeenZ := (true, fn.map He5.DefA.val)
def Says2 (fb : List Chk) (fn : List He5.DefA) (K : Frag) : Prop := seenK2 fb fn K = dueK2 fn
section
variable {fb : List Chk} {fn : List He5.DefA} {K : Frag}
theorem Says2.fact (c : Says2 fb fn K) (i : Nat) {f : Chk} (h : fb[i]? = some f := by rfl) : f K = true := by
  have q := (He.ba (congrArg (fun z : SeenZ => z.1) c)).1
  exact List.all_eq_true.mp q f (List.mem_of_getElem? h)
theorem Says2.def_ (c : Says2 fb fn K) (i : Nat) {d : He5.DefA} (h : fn[i]? = some d := by rfl) : ∃ fd, FunD K d.name d.qual d.params d.body d.scope (d.dvs K) (d.kws K) (d.at_ K) fd := by
  have q := (He.ba (congrArg (fun z : SeenZ => z.1) c)).2
  have e : fn.map (fun d => He5.fnA K (d.at_ K)) = fn.map He5.DefA.val := congrArg (fun z : SeenZ => z.2) c
  have e2 := congrArg (fun l => l[i]?) e
  simp only [List.getElem?_map, h, Option.map_some] at e2
  exact He5.DefA.funD (Option.some.inj e2) (List.all_eq_true.mp q d (List.mem_of_getElem? h))
end
structure LwB (fb : List Chk) (fn : List He5.DefA) (K : Frag) (mg : Str → Option Value) : Prop where
  at_ : ∃ h : Heap, K.In h ∧ h.Ns mainGlobals mg
  c : Says2 fb fn K
/-- C.m(..), m a staticmethod of C -/
def tStaW (C : Addr) (sp : Sp) (dvs : List V) (W : WX) (ta : TE) (t : TA) : TE := fun σ H Q => ta σ H fun x H1 => x = .ref C ∧ t σ H1 fun vs H2 => sp (vs ++ dvs) H2 Q (fun cls d H' => W cls d σ H')
section
variable {K : Frag} {σ : L2.St} {H : Hp} {Q : VK} {ta : TE} {t : TA} {sp : Sp} {dvs : List V} {W : WX} {C : Addr}
def zSta (C : Addr) (x : V) (R : Prop) : Prop := x = .ref C ∧ R
theorem z_sta (q : ta σ H fun x H1 => zSta C x (t σ H1 fun vs H2 => sp (vs ++ dvs) H2 Q (fun cls d H' => W cls d σ H'))) : tStaW C sp dvs W ta t σ H Q := q
theorem z_sta1 {R : Prop} (q : R) : zSta C (.ref C) R := ⟨rfl, q⟩
end
end Z
set_option maxHeartbeats 4000000
namespace Z
open PySem PySem.Spec PyProof.Rows L2
theorem map_three {α β γ δ : Type} {o : Option α} {f : α → β} {g : α → γ} {h : α → δ} {a : β} {b : γ} {c : δ} (h1 : o.map f = some a) (h2 : o.map g = some b) (h3 : o.map h = some c) : o.map (fun x => (f x, g x, h x)) = some (a, b, c) := by
  cases o with
  | none => cases h1
  | some x =>
    cases h1
    cases h2
    cases h3
    rfl
end Z
set_option maxHeartbeats 4000000
namespace Z
open PySem PySem.Spec PyProof.Rows L2
section
variable {K : Frag} {σ : L2.St} {H1 : Hp} {Q : VK} {te : TE} {i j : Nat}
def zLcT (K : Frag) (g : TG) (tt : TT) (te : TE) (vs : List Nat) (σ : L2.St) (x : V) (H1 : Hp) (Q : VK) : Prop := ∃ a, x = .ref a ∧ (∃ xs, SqT K H1 a xs) ∧ zLc (Itt K a) g tt te vs σ H1 Q
theorem z_lcTS {g : TG} {tt : TT} {t : TE} {vs : List Nat} (q : t σ H1 fun x H2 => zLcT K g tt te vs σ x H2 Q) : tLc (iTup K t) g tt te vs σ H1 Q := q
/-- a loop over a tuple -/
def zFoT (K : Frag) (g : TG) (tb : TS) (D : Ends) (σ : L2.St) (x : V) (H1 : Hp) : Prop := ∃ a, x = .ref a ∧ (∃ xs, SqT K H1 a xs) ∧ ∃ W : Nat → Nat → L2.St → Hp → Prop, (∃ m, W 0 m σ H1) ∧ ∀ k m σ H, W k m σ H →
    ((Itt K a).stop k H ∧ D.nx σ H) ∨ ((Itt K a).go k H ∧ ∃ N : L2.St → Hp → Prop, (∀ σ' H', N σ' H' → ∃ m', m' < m ∧ W (k + 1) m' σ' H') ∧ ∀ x H', (Itt K a).yld k H x H' → g x σ H' fun σ2 H2 => tb { D with nx := N, ct := N, bk := D.nx } σ2 H2)
theorem z_foTS {g : TG} {tb : TS} {D : Ends} {t : TE} (q : t σ H1 fun x H2 => zFoT K g tb D σ x H2) : tFor (iTup K t) g tb D σ H1 := q
theorem z_foT {g : TG} {tb : TS} {D : Ends} {a : Addr} {xs : List V} (h : H1 a = some (.tup xs)) (I : Nat → L2.St → Hp → Prop) (h0 : I 0 σ H1) (hl : ∀ k σ H, I k σ H → H a = some (.tup xs))
    (hs : ∀ k x σ H, xs[k]? = some x → I k σ H → g x σ H fun σ2 H2 => tb { D with nx := I (k + 1), ct := I (k + 1), bk := D.nx } σ2 H2) (hd : ∀ σ H, I xs.length σ H → D.nx σ H) : zFoT K g tb D σ (.ref a) H1 :=
  ⟨a, rfl, ⟨_, SqT.of h⟩, for_it (walk_tup (K := K) (a := a) (xs := xs)) I h0 (fun k σ H _ p => SqT.of (hl k σ H p)) (fun k x σ H H' _ p y => by
    obtain ⟨rfl, hx⟩ := y
    exact hs k x σ H' hx p) hd⟩
end
end Z
set_option maxHeartbeats 4000000
namespace Z
open PySem PySem.Spec PyProof.Rows L2
end Z
set_option maxHeartbeats 4000000
namespace Z
open PySem PySem.Spec PyProof.Rows L2
def tRevT (K : PySem.W.Frag) (te : TE) : TE := fun σ H Q => te σ H fun x H1 => ∃ a xs, x = .ref a ∧ SqT K H1 a xs ∧ ∀ p, H1 p = none → Q (.ref p) (upd H1 p (.tup xs.reverse))
section
variable {X : Cx}
/-- a list or a tuple walked -/
def iOr (w1 w2 : TI) : TI := fun σ H R => w1 σ H R ∨ w2 σ H R
theorem pi_or {tg it : Expr} {w1 w2 : TI} (h1 : PI X tg it w1) (h2 : PI X tg it w2) : PI X tg it (iOr w1 w2) := ⟨fun pins s σ H R I h => h.elim (h1.run pins s σ H R I) (h2.run pins s σ H R I)⟩
end
section
variable {K : Frag} {σ : L2.St} {H : Hp} {Q : VK}
def zRevT (K : Frag) (x : V) (H : Hp) (Q : VK) : Prop := ∃ a xs, x = .ref a ∧ SqT K H a xs ∧ ∀ p, H p = none → Q (.ref p) (upd H p (.tup xs.reverse))
theorem z_revTS {te : TE} (q : te σ H fun x H1 => zRevT K x H1 Q) : tRevT K te σ H Q := q
end
end Z
set_option maxHeartbeats 4000000
namespace Z
open PySem PySem.Spec PyProof.Rows L2
/-- those that the mask does not hold, each once -/
def newB {α : Type} : List Addr → Nat → List Addr → (List Addr → Nat → α) → α
  | [], m, acc, k => k acc m
  | a :: r, m, acc, k => HandSHeadRun.frNat a fun a => match Nat.beq (Nat.mod (Nat.shiftRight m a) 2) 1 with
    | true => newB r m acc k
    | false => HandSHeadRun.frNat (Nat.lor m (Nat.shiftLeft 1 a)) fun m => newB r m (a :: acc) k
def asB (g : Addr → Option Obj) : Nat → List Addr → Nat → List Addr → List Addr
  | 0, _, _, acc => acc
  | n + 1, fr, m, acc => newB (fr.flatMap fun a => match g a with
    | some o => He.refsD o
    | none => []) m [] fun nw m => asB g n nw m (nw ++ acc)
def seenG3 (n : Nat) (fb : List Chk) (fn : List He5.DefA) (g : Addr → Option Obj) : SeenZ := seenK2 fb fn (He.frG g (asB g n [mainGlobals] (Nat.shiftLeft 1 mainGlobals) [cStatics, mainGlobals]))
def hookZ3 (n : Nat) (fb : List Chk) (fn : List He5.DefA) : PySem.W.Hook where
  α := SeenZ
  val := fun _ => dueK2 fn
  obs := fun st => seenG3 n fb fn st.heap.get?
  says := fun _ hp => ∃ K : Frag, K.In hp ∧ Says2 fb fn K
  keeps := fun _ _ _ ⟨K, hin, c⟩ kp => ⟨K, PySem.W.Frag.In.keeps hin kp, c⟩
  of := fun _ _ eq => ⟨_, He.frG_in, eq⟩
theorem seenG3_eq {n : Nat} {fb : List Chk} {fn : List He5.DefA} {g : Addr → Option Obj} {st : Shared} (h : ∀ a, g a = st.heap.get? a) : seenG3 n fb fn g = (hookZ3 n fb fn).obs st := by
  rw [show g = st.heap.get? from funext h] <;> rfl
theorem seen_both3 {α : Type} {o : Option α} {g : α → Addr → Option Obj} {n : Nat} {fb1 fb2 : List Chk} {fn1 fn2 : List He5.DefA} (h1 : o.map (fun x => seenG3 n fb1 fn1 (g x)) = some (dueK2 fn1)) (h2 : o.map (fun x => seenG3 n fb2 fn2 (g x)) = some (dueK2 fn2)) :
    o.map (fun x => seenG3 n (fb1 ++ fb2) (fn1 ++ fn2) (g x)) = some (dueK2 (fn1 ++ fn2)) := by
  cases o with
  | none => cases h1
  | some x =>
    have e1 : seenG3 n fb1 fn1 (g x) = dueK2 fn1 := Option.some.inj h1
    have e2 : seenG3 n fb2 fn2 (g x) = dueK2 fn2 := Option.some.inj h2
    show some (seenG3 n (fb1 ++ fb2) (fn1 ++ fn2) (g x)) = _
    unfold seenG3 seenK2 dueK2 at *
    have a1 := congrArg (fun z : SeenZ => z.1) e1
    have a2 := congrArg (fun z : SeenZ => z.1) e2
    have b1 := congrArg (fun z : SeenZ => z.2) e1
    have b2 := congrArg (fun z : SeenZ => z.2) e2
    dsimp only at a1 a2 b1 b2
    obtain ⟨c1, c2⟩ := He.ba a1
    obtain ⟨d1, d2⟩ := He.ba a2
    rw [List.all_append, List.all_append, List.map_append, List.map_append, c1, c2, d1, d2, b1, b2]
    rfl
end Z
set_option maxHeartbeats 4000000
namespace Z
open PySem PySem.Spec PyProof.Rows L2
section
variable {K : Frag} {σ : L2.St} {H1 : Hp} {Q : VK} {te : TE} {i j : Nat}
def Sq2 (H : Hp) (a : Addr) (xs : List V) : Prop := H a = some (.lst xs) ∨ H a = some (.tup xs)
theorem Sq2.mono {H H' : Hp} {a : Addr} {xs : List V} (s : Same H H') (h : Sq2 H a xs) : Sq2 H' a xs := h.imp (s _ _) (s _ _)
end
end Z
set_option maxHeartbeats 4000000
namespace Z
open PySem PySem.Spec PyProof.Rows L2
end Z
set_option maxHeartbeats 4000000
namespace Z
open PySem PySem.Spec PyProof.Rows L2
/-- a clause: its class, the slot of its name, what it does -/
structure Cl where
  c : Value
  i : Nat
  ts : Addr → Value → Option Addr → TS
/-- what clauses in turn wish of an exception -/
def wCls (K : PySem.W.Frag) (Wout : WX) (D : Ends) : List Cl → WX
  | [] => Wout
  | q :: r => wAs K q.c q.i q.ts (wCls K Wout D r) D
inductive ClsOk (X : Cx) : List ExceptHandler → List Cl → Prop
  | nil : ClsOk X [] []
  | cons {x n : Str} {q : Cl} {b₀ : Stmt} {more : List Stmt} {np at' : Pos} {hds : List ExceptHandler} {l : List Cl} (hc : Names X x q.c) (hi : X.N[q.i]? = some n) (hl : X.env.kindOf n = some .local)
      (hq : ∀ (a : Addr) (o : Obj) (cls : Value) (d : Option Addr) (pn : List (Addr × Obj)), L2N.Zn cls d o → (∃ vs, o.data = .fields vs) → PSs (X.suite a ((a, o) :: pn)) (b₀ :: more) (q.ts a cls d)) (r : ClsOk X hds l) :
      ClsOk X (.ExceptHandler (some (.Name x np)) (some n) (b₀ :: more) at' :: hds) (q :: l)
/-- a caught exception has landed, ahead of the clauses -/
structure Down (X : Cx) (pins : List (Addr × Obj)) (a : Addr) (B : Heap) (sI : Shared) (σ : L2.St) (H : Hp) (cls : Value) (d : Option Addr) (s : Shared) : Prop where
  inv : Inv X pins σ H sI
  nb : ∀ b o, sI.heap.get? b = some o → b ∉ frs X.stack → B.get? b = some o
  fly : HandSPX.FlyingZ B (X.env :: X.outer) a (L2N.Zn cls d) s.heap
  up : sI.heap.UpToSlots s.heap
  na : H a = none
  os : s.os = sI.os
  ag : AllBare s.gens
section
variable {X : Cx} {pins : List (Addr × Obj)} {a : Addr} {B : Heap} {sI s : Shared} {σ : L2.St} {H : Hp} {cls : Value} {d : Option Addr} {D : Ends} {Wout : WX}
theorem Down.now (n : Down X pins a B sI σ H cls d s) : Inv X pins σ H s := n.inv.landed n.nb n.fly.1 n.up n.os n.ag
theorem Down.obj (n : Down X pins a B sI σ H cls d s) : ∃ o vs, s.heap.get? a = some o ∧ L2N.Zn cls d o ∧ o.data = .fields vs := by
  obtain ⟨_, _, _, o, vs, _, _, _, ho, hz, hd, _⟩ := n.fly
  exact ⟨o, vs, ho, hz, hd⟩
theorem Down.apart (n : Down X pins a B sI σ H cls d s) (hf : X.env.frame = some X.env.locals) : a ≠ X.env.locals ∧ a ∉ X.fs := by
  obtain ⟨o, vs, ho, _, hd⟩ := n.obj
  have away : a ∉ frs (X.env :: X.outer) := fun m => by
    obtain ⟨_, o2, ho2, nd⟩ := n.fly.2.2.1.mem m
    obtain rfl : o = o2 := Option.some.inj (ho.symm.trans ho2)
    exact nd _ hd
  refine ⟨fun e => away ?_, fun m => away ?_⟩
  · exact List.mem_filterMap.mpr ⟨_, List.mem_cons_self, by rw [hf, e]⟩
  · obtain ⟨v, hv, ev⟩ := List.mem_filterMap.mp m
    exact List.mem_filterMap.mpr ⟨v, List.mem_cons_of_mem _ hv, ev⟩
theorem Down.pass (n : Down X pins a B sI σ H cls d s) (hs : X.stack = X.env :: X.outer) (hf : X.env.frame = some X.env.locals) (tk : L2N.Takes X Wout) (w : Wout cls d σ H) : wpAny (model X.prog X.w) X.A (handleBy (.ref a) X.env []) (SP X pins D) X.xe s := by
  have off : wpAny (model X.prog X.w) X.A (setFlight (.ref a) X.env.frame) (fun _ s2 => wpAny (model X.prog X.w) X.A (throw (.ref a) : Sem Flow) (SP X pins D) X.xe s2) X.xe s := by
    rw [hf]
    refine HandSPX.setFlight_upZ n.fly fun h2 held up2 => wpAny_throw (tk _ _ ⟨a, B, sI, pins, σ, H, cls, d, rfl, n.inv, n.nb, n.up.trans up2, ?_, n.na, n.os, n.ag, w⟩)
    rw [hs]
    exact .inr (.inr held)
  obtain ⟨_, _, _, o, vs, tb, _, _, ho, _, hd, ht, _⟩ := n.fly
  refine wpAny_handleBy_nil ?_
  unfold PySem.passOn
  refine wpAny_bind (wpAny_field ho hd ht ?_)
  rw [if_neg (by simp : ¬ (Value.ref tb == Value.none) = true)]
  first
    | exact wpAny_bind (wpAny_pure (wpAny_bind off))
    | exact wpAny_bind off
theorem clauses_run (ok : X.Ok) (hs : X.stack = X.env :: X.outer) (hf : X.env.frame = some X.env.locals) (hN : X.N.Nodup) (tk : L2N.Takes X Wout) {hds : List ExceptHandler} {l : List Cl} (hk : ClsOk X hds l) (n : Down X pins a B sI σ H cls d s) :
    wCls X.K Wout D l cls d σ H → wpAny (model X.prog X.w) X.A (handleBy (.ref a) X.env hds) (SP X pins D) X.xe s := by
  induction hk with
  | nil => exact n.pass hs hf tk
  | @cons x m e b₀ more np at' hds l hc hi hl hq _ ih =>
    rintro ⟨b, hb, yes, no⟩
    obtain ⟨o, vs, ho, hz, hd⟩ := n.obj
    obtain ⟨away, aways⟩ := n.apart hf
    have inS := n.now.suite ho hd n.na away aways
    have ty : PySem.W.Looks (model X.prog X.w) s.heap (typeOf (.ref a)) cls := fun A' Q' E' s2 k q => wpAny_typeOf_ref (k _ _ ho) (by rw [hz.1]; exact q)
    have hit := PySem.W.exm_one (M := model X.prog X.w) n.now.kIn ty hb
    refine wpAny_handleBy_cons (codeAny_handlers_test ?_) (by rintro ⟨⟩)
    have look : ∀ {Q' E' : Value → Shared → Prop}, Q' _ s → wpAny (model X.prog X.w) (X.A.mark (some (.ref a))) (eval (.Name x np) X.env) Q' E' s := fun q => by
      obtain ⟨g1, g2, g3 | ⟨g3, g4, g5⟩⟩ := hc
      · exact ld_glob (X := X.suite a ((a, o) :: (X.pn ++ pins))) inS g1 g3 q g2
      · exact ld_blt (X := X.suite a ((a, o) :: (X.pn ++ pins))) inS g1 g3 g4 q g5 g2
    refine look (hit.here ?_)
    cases b with
    | false => exact ih (no rfl)
    | true =>
      refine codeAny_handlers_suite_as (HandSPX.lands_againZ n.fly fun h2 fly2 up2 => ?_)
      have n2 : Down X pins a B sI σ H cls d { s with heap := h2 } := ⟨n.inv, n.nb, fly2, n.up.trans up2, n.na, n.os, n.ag⟩
      obtain ⟨o2, vs2, ho2, hz2, hd2⟩ := n2.obj
      have inS2 := n2.now.suite ho2 hd2 n.na away aways
      refine store_ok (X := X.suite a ((a, o2) :: (X.pn ++ pins))) (v := .ref a) inS2 hN hi (.inl hl) rfl (fun s5 S5 => ?_) (.inr hl)
      refine wpAny_mono ((hq a o2 cls d (X.pn ++ pins) hz2 ⟨_, hd2⟩).run [] s5 _ H _ S5 (yes rfl a n.na)) (fun f s6 out => ?_) (fun _ _ z => z.elim)
      have gone : ∀ {σ6 : L2.St} {H6 : Hp} {R : Shared → Prop}, Inv (X.suite a ((a, o2) :: (X.pn ++ pins))) [] σ6 H6 s6 → (∀ s7, Inv X pins (σ6.set e.i none) H6 s7 → R s7) → wpAny (model X.prog X.w) X.A (do bindName X.env m .none; unbindBehindTheSuite X.env m at') (fun _ s7 => R s7) X.xe s6 :=
        fun I6 r => gone_ok (I6.unsuite ok) hN hi hl r
      match f, out with
      | .next, ⟨_, _, I6, r⟩ => exact gone I6 fun _ I7 => ⟨_, _, I7, r⟩
      | .brk, ⟨_, _, I6, r⟩ => exact gone I6 fun _ I7 => ⟨_, _, I7, r⟩
      | .cont, ⟨_, _, I6, r⟩ => exact gone I6 fun _ I7 => ⟨_, _, I7, r⟩
      | .ret _, ⟨_, _, _, I6, v6, r⟩ => exact gone I6 fun _ I7 => ⟨_, _, _, I7, v6, r⟩
theorem ps_try_cls {body : List Stmt} {h₀ : ExceptHandler} {hds : List ExceptHandler} {l : List Cl} {pos : Pos} {tb : WX → TS} (hs : X.stack = X.env :: X.outer) (hf : X.env.frame = some X.env.locals) (hN : X.N.Nodup) (tk : L2N.Takes X Wout)
    (hb : ∀ (W : WX) (pn : List (Addr × Obj)) (xe : Value → Shared → Prop), L2N.Takes (X.tr pn xe) W → PassesOwn (model X.prog X.w) X.A X.env xe → PSs (X.tr pn xe) body (tb W)) (hk : ClsOk X (h₀ :: hds) l) :
    PS X (.Try body (h₀ :: hds) [] [] pos) (fun D σ H => tb (wCls X.K Wout D l) D σ H) := by
  refine ⟨fun pins s σ H D I h => wpAny_Try_except ?_⟩
  have ok := I.ok
  have fr : X.A.frames = some (X.env :: X.outer) := ok.frames.trans (by rw [hs])
  let xe := fun e s₁ => wpAny (model X.prog X.w) X.A (noteFrame e X.env) (fun _ s₂ => wpAny (model X.prog X.w) X.A (setFlight e none) (fun _ s₃ => wpAny (model X.prog X.w) X.A (handleBy e X.env (h₀ :: hds)) (SP X pins D) X.xe s₃) X.xe s₂) X.xe s₁
  have catch' : L2N.Takes (X.tr (X.pn ++ pins) xe) (wCls X.K Wout D l) := by
    rintro u s' ⟨a, B, sI, pn', σ', H', cls, d, rfl, J, nb, up, sky, na, os, ag, w⟩
    have sky' : L2.Sky B (X.env :: X.outer) a (L2N.Zn cls d) X.env.locals s'.heap := by
      rw [← hs]
      exact sky
    exact L2N.Sky.land L2N.Zn.steady fr hf sky' fun h3 fly up3 => clauses_run ok hs hf hN tk hk ⟨J.ofTry ok, nb, fly, up.trans up3, na, os, ag⟩ w
  refine wpAny_mono ((hb _ (X.pn ++ pins) xe catch' PassesOwn.looking).run [] s σ H D (I.toTry _) h) (fun f s1 out => ?_) (fun e s1 z => z)
  match f, out with
  | .next, ⟨_, _, J, r⟩ => exact wpAny_execs_nil ⟨_, _, J.ofTry ok, r⟩
  | .brk, ⟨_, _, J, r⟩ => exact ⟨_, _, J.ofTry ok, r⟩
  | .cont, ⟨_, _, J, r⟩ => exact ⟨_, _, J.ofTry ok, r⟩
  | .ret _, ⟨_, _, _, J, v, r⟩ => exact ⟨_, _, _, J.ofTry ok, v, r⟩
theorem ClsOk.mk {x n : Str} {c : Value} {ts : Addr → Value → Option Addr → TS} {b₀ : Stmt} {more : List Stmt} {np at' : Pos} {hds : List ExceptHandler} {l : List Cl} (i : Nat) (hc : Names X x c) (hi : X.N[i]? = some n) (hl : X.env.kindOf n = some .local)
    (hq : ∀ (a : Addr) (o : Obj) (cls : Value) (d : Option Addr) (pn : List (Addr × Obj)), L2N.Zn cls d o → (∃ vs, o.data = .fields vs) → PSs (X.suite a ((a, o) :: pn)) (b₀ :: more) (ts a cls d)) (r : ClsOk X hds l) :
    ClsOk X (.ExceptHandler (some (.Name x np)) (some n) (b₀ :: more) at' :: hds) (⟨c, i, ts⟩ :: l) := .cons (q := ⟨c, i, ts⟩) hc hi hl hq r
end
/-- the first clause is asked -/
theorem z_cls {K : Frag} {Wout : WX} {D : Ends} {q : Cl} {r : List Cl} {cls : Value} {d : Option Addr} {σ : L2.St} {H : Hp} (h : wAs K q.c q.i q.ts (wCls K Wout D r) D cls d σ H) : wCls K Wout D (q :: r) cls d σ H := h
/-- a clause that does not take it -/
theorem z_asN {K : Frag} {cls c : Value} {i : Nat} {ts : Addr → Value → Option Addr → TS} {Wout : WX} {D : Ends} {d : Option Addr} {σ : L2.St} {H : Hp} (hk : PySem.W.exmOne K cls c = some false) (q : Wout cls d σ H) : wAs K c i ts Wout D cls d σ H :=
  ⟨false, hk, fun z => Bool.noConfusion z, fun _ => q⟩
end Z
set_option maxHeartbeats 4000000
namespace Z
open PySem PySem.Spec PyProof.Rows L2
end Z
set_option maxHeartbeats 4000000
namespace Z
open PySem PySem.Spec PyProof.Rows L2
section
variable {X : Cx}
/-- // by a divisor of any size, where the quotient is not too long -/
def zDivB : R2 := fun x y H Q => ∃ i j, x = .int i ∧ y = .int j ∧ CDivP i j ∧ Q (.int (i / j)) H
theorem o_divB : OpR X (binaryOp .FloorDiv) zDivB := opI (C := CDivP) fun i j _ _ _ _ _ hc q => floordiv_int (by have := hc.1; omega) (by rw [Int.fdiv_eq_ediv_of_nonneg i (by have := hc.1; omega)]; exact q) (.inl hc.2)
def zDiv2 : R2 := rOr zDiv zDivB
theorem o_div2 : OpR X (binaryOp .FloorDiv) zDiv2 := op_or2 o_div o_divB
end
section
variable {H : Hp} {Q : VK} {σ : L2.St}
theorem z_div2S {i j : Int} (h : 0 < j) (h2 : j < 18446744073709551616) (q : Q (.int (i / j)) H) : zDiv2 (.int i) (.int j) H Q := .inl (z_divS h h2 q)
theorem z_div2B {i j : Int} (c : CDivP i j) (q : Q (.int (i / j)) H) : zDiv2 (.int i) (.int j) H Q := .inr ⟨i, j, rfl, rfl, c, q⟩
theorem z_shlP {i j : Int} (c : CPow i j) (q : Q (.int (i * 2 ^ j.toNat)) H) : rI CPow (fun i j => .int (i * 2 ^ j.toNat)) (.int i) (.int j) H Q := ⟨i, j, rfl, rfl, c, q⟩
theorem z_shrP {i j : Int} (c : 0 ≤ j) (q : Q (.int (i / 2 ^ j.toNat)) H) : rI (fun _ j => 0 ≤ j) (fun i j => .int (i / 2 ^ j.toNat)) (.int i) (.int j) H Q := ⟨i, j, rfl, rfl, c, q⟩
theorem z_tbits {to : TE} (q : to σ H fun x H1 => ∃ i, x = .int i ∧ Q (.int (Builtin.Int.intBits i : Nat)) H1) : tBits to σ H Q := q
theorem z_tbi {i : Int} {P : Int → Prop} (q : P i) : ∃ j, V.int i = .int j ∧ P j := ⟨i, rfl, q⟩
/-- for x in range(n - 1, -1, -1) -/
def zFoD (g : TG) (tb : TS) (D : Ends) (σ : L2.St) (vs : List V) (H1 : Hp) : Prop := ∃ (i j c : Int) (n : Nat), vs = [.int i, .int j, .int c] ∧ RgC i j c n ∧ ∃ W : Nat → Nat → L2.St → Hp → Prop, (∃ m, W 0 m σ H1) ∧ ∀ k m σ H, W k m σ H →
    ((Itc i c n).stop k H ∧ D.nx σ H) ∨ ((Itc i c n).go k H ∧ ∃ N : L2.St → Hp → Prop, (∀ σ' H', N σ' H' → ∃ m', m' < m ∧ W (k + 1) m' σ' H') ∧ ∀ x H', (Itc i c n).yld k H x H' → g x σ H' fun σ2 H2 => tb { D with nx := N, ct := N, bk := D.nx } σ2 H2)
theorem z_for3 {g : TG} {tb : TS} {D : Ends} {t : TA} (q : t σ H fun vs H1 => zFoD g tb D σ vs H1) : tFor (iRng3 t) g tb D σ H := q
theorem z_foD {g : TG} {tb : TS} {D : Ends} {n : Nat} (h : n ≤ 1000000000) (I : Nat → L2.St → Hp → Prop) (h0 : I 0 σ H)
    (hs : ∀ (k : Nat) σ H, k < n → I k σ H → g (.int ((n : Int) - 1 - k)) σ H fun σ2 H2 => tb { D with nx := I (k + 1), ct := I (k + 1), bk := D.nx } σ2 H2) (hd : ∀ σ H, I n σ H → D.nx σ H) : zFoD g tb D σ [.int ((n : Int) - 1), .int (-1), .int (-1)] H := by
  refine ⟨_, _, _, n, rfl, ?_, for_rangeC I h0 (fun k σ H hk p => ?_) hd⟩
  · have := RgC.neg (i := (n : Int) - 1) (j := -1) (by omega) (by omega) (by omega) (by omega)
    rwa [show ((n : Int) - 1 - -1).toNat = n by omega] at this
  · have := hs k σ H hk p
    rwa [show (n : Int) - 1 - k = (n : Int) - 1 + (k : Nat) * -1 by omega] at this
/-- while: an invariant with a number that falls -/
theorem z_while {c : TT} {tb : TS} {D : Ends} (I : Nat → L2.St → Hp → Prop) (m : Nat) (h0 : I m σ H)
    (hs : ∀ m σ H, I m σ H → c σ H fun b H1 => if b = true then ∃ N : L2.St → Hp → Prop, (∀ σ' H', N σ' H' → ∃ m', m' < m ∧ I m' σ' H') ∧ tb { D with nx := N, ct := N, bk := D.nx } σ H1 else D.nx σ H1) : tWhile c tb D σ H := ⟨I, ⟨m, h0⟩, hs⟩
end
end Z
set_option maxHeartbeats 4000000
namespace S31
/-- the number at a place -/
def cf (xs : List Int) (k : Nat) : Int := xs.getD k 0
def tp (f : Nat → Int) : Nat → Int := fun k => (if k = 0 then 0 else f (k - 1)) + f k
def tpn (f : Nat → Int) : Nat → Nat → Int
  | 0 => f
  | n + 1 => tp (tpn f n)
theorem cf_out {xs : List Int} {k : Nat} (h : xs.length ≤ k) : cf xs k = 0 := by simp [cf, List.getD_eq_getElem?_getD, h]
theorem cf_in {xs : List Int} {k : Nat} (h : k < xs.length) : cf xs k = xs[k] := by simp [cf, List.getD_eq_getElem?_getD, h]
theorem cf_map {xs : List Int} {g : Int → Int} {k : Nat} (g0 : g 0 = 0) : cf (xs.map g) k = g (cf xs k) := by
  by_cases h : k < xs.length
  · rw [cf_in h, cf_in (by simpa using h), List.getElem_map]
  · rw [cf_out (xs := xs) (by omega), cf_out (by rw [List.length_map]; omega), g0]
/-- the common divisor -/
def gl (c : Int) (ns : List Int) : Int := ns.foldl (fun c n => ((Int.gcd c n : Nat) : Int)) c
theorem gl_pos {c : Int} (hc : 0 < c) : ∀ ns : List Int, 0 < gl c ns ∧ gl c ns ≤ c ∧ gl c ns ∣ c ∧ ∀ n ∈ ns, gl c ns ∣ n := by
  intro ns
  induction ns generalizing c with
  | nil => exact ⟨hc, Int.le_refl _, Int.dvd_refl _, fun n h => by cases h⟩
  | cons x xs ih =>
    have g0 : 0 < ((Int.gcd c x : Nat) : Int) := by
      have := Int.gcd_pos_of_ne_zero_left x (show c ≠ 0 by omega)
      omega
    obtain ⟨i1, i2, i3, i4⟩ := ih g0
    have d1 : ((Int.gcd c x : Nat) : Int) ∣ c := Int.gcd_dvd_left ..
    have d2 : ((Int.gcd c x : Nat) : Int) ∣ x := Int.gcd_dvd_right ..
    have le := Int.le_of_dvd hc d1
    refine ⟨i1, Int.le_trans i2 le, Int.dvd_trans i3 d1, fun n h => ?_⟩
    rcases List.mem_cons.mp h with rfl | h
    · exact Int.dvd_trans i3 d2
    · exact i4 n h
end S31
set_option maxHeartbeats 4000000
namespace S31
def cv (f g : Nat → Int) (m : Nat) : Nat → Int
  | 0 => 0
  | J + 1 => cv f g m J + (if J ≤ m then f J * g (m - J) else 0)
/-- the value at x of the first N places -/
def E (f : Nat → Int) (x : Rat) : Nat → Rat
  | 0 => 0
  | N + 1 => E f x N + (f N : Rat) * x ^ N
def sh (f : Nat → Int) : Nat → Int := fun k => if k = 0 then 0 else f (k - 1)
def pb : Nat → Nat → Int := tpn fun k => if k = 0 then 1 else 0
theorem pb_succ {N k : Nat} : pb (N + 1) k = (if k = 0 then 0 else pb N (k - 1)) + pb N k := rfl
theorem pb_nonneg : ∀ N k, 0 ≤ pb N k
  | 0, k => by
    show 0 ≤ (if k = 0 then (1 : Int) else 0)
    split <;> decide
  | N + 1, k => by
    rw [pb_succ]
    have h1 := pb_nonneg N k
    have h2 := pb_nonneg N (k - 1)
    split <;> omega
theorem pb_pos : ∀ N k, k ≤ N → 0 < pb N k
  | 0, k, h => by
    have : k = 0 := by omega
    subst this
    decide
  | N + 1, k, h => by
    rw [pb_succ]
    by_cases c : k ≤ N
    · have h1 := pb_pos N k c
      have h2 := pb_nonneg N (k - 1)
      split <;> omega
    · have e : k = N + 1 := by omega
      subst e
      rw [if_neg (by omega), Nat.add_sub_cancel]
      have h1 := pb_pos N N (Nat.le_refl _)
      have h2 := pb_nonneg N (N + 1)
      omega
theorem pb_out : ∀ N k, N < k → pb N k = 0
  | 0, k, h => if_neg (by omega)
  | N + 1, k, h => by
    rw [pb_succ, if_neg (by omega), pb_out N k (by omega), pb_out N (k - 1) (by omega)]
    rfl
def ee (m N k : Int) : Int := m * N * (N - 1) - 4 * (m - 1) * k * (N - k)
end S31
set_option maxHeartbeats 4000000
namespace S30
abbrev Sq := Nat → Rat
def sft (c : Sq) : Sq := fun k => c (k + 1)
/-- sum of pb i k * c k: the i-th row of the sums of neighbours -/
def T : Nat → Sq → Rat
  | 0, c => c 0
  | i + 1, c => T i c + T i (sft c)
/-- sum of pb d k * c k * u^k * v^(d-k) -/
def G (u v : Rat) : Nat → Sq → Rat
  | 0, c => c 0
  | d + 1, c => v * G u v d c + u * G u v d (sft c)
/-- the value at x of the first N numbers -/
def E (f : Sq) (x : Rat) : Nat → Rat
  | 0 => 0
  | N + 1 => E f x N + f N * x ^ N
def ab (q : Rat) : Rat := if 0 ≤ q then q else -q
theorem pow_le {x : Rat} (h0 : 0 < x) (h1 : x ≤ 1) : ∀ n : Nat, 0 < x ^ n ∧ x ^ n ≤ 1
  | 0 => by rw [Rat.pow_zero]; decide
  | n + 1 => by
    obtain ⟨p, q⟩ := pow_le h0 h1 n
    rw [Rat.pow_succ]
    have m1 := Rat.mul_pos p h0
    have m2 : 0 ≤ x ^ n * (1 - x) := Rat.mul_nonneg (Rat.le_of_lt p) (by grind)
    grind
end S30
set_option maxHeartbeats 4000000
namespace S30
open S31 (pb pb_succ pb_out pb_pos)
/-- with Pascal's row in front -/
def pw (d : Nat) (c : Sq) : Sq := fun k => (pb d k : Rat) * c k
def rv (d : Nat) (c : Sq) : Sq := fun k => c (d - k)
end S30
set_option maxHeartbeats 4000000
namespace S30
open S31 (pb pb_succ pb_out pb_pos cf)
end S30
set_option maxHeartbeats 4000000
namespace S30
open S31 (cf cf_in cf_out cf_map gl gl_pos)
/-- a common factor and zeros at the end left out -/
structure LowT (ns : List Int) (o : Int) (ls : List Int) (o' : Int) : Prop where
  len : ls.length ≤ ns.length
  ex : ∃ c : Int, 0 < c ∧ (∀ k, cf ns k = c * cf ls k) ∧ o = c * o'
  top : ∀ n, ls.length = n + 1 → cf ls n ≠ 0
  cop : ∀ d : Int, d ∣ o' → (∀ k, d ∣ cf ls k) → d ∣ 1
theorem LowT.nil {ns ls : List Int} {o o' : Int} (h : LowT ns o ls o') (hn : ns.length = 0) : ls = [] := List.eq_nil_of_length_eq_zero (by have := h.len; omega)
theorem LowT.abs {ns ls : List Int} {o o' : Int} (h : LowT ns o ls o') (k : Nat) : (cf ls k).natAbs ≤ (cf ns k).natAbs := by
  obtain ⟨c, c0, e1, e2⟩ := h.ex
  rw [e1, Int.natAbs_mul]
  exact Nat.le_mul_of_pos_left _ (by omega)
end S30
set_option maxHeartbeats 4000000
set_option maxHeartbeats 4000000
set_option maxHeartbeats 4000000
set_option maxHeartbeats 4000000
set_option maxHeartbeats 4000000
set_option maxHeartbeats 4000000
set_option maxHeartbeats 4000000
namespace S02
theorem pow_nn {a : Int} (h : 0 ≤ a) (k : Nat) : 0 ≤ a ^ k := Int.pow_nonneg h
theorem pow_le {a b : Int} (ha : 0 ≤ a) (h : a ≤ b) (k : Nat) : a ^ k ≤ b ^ k := by
  induction k with
  | zero => simp
  | succ k ih =>
    rw [Int.pow_succ, Int.pow_succ]
    exact Int.mul_le_mul ih h ha (pow_nn (by omega) k)
theorem pow_lt {a b : Int} (ha : 0 ≤ a) (h : a < b) (k : Nat) : a ^ (k + 1) < b ^ (k + 1) := by
  induction k with
  | zero =>
    rw [Int.pow_succ, Int.pow_succ, Int.pow_zero, Int.pow_zero]
    omega
  | succ k ih =>
    rw [Int.pow_succ a, Int.pow_succ b]
    have h1 : a ^ (k + 1) * a ≤ a ^ (k + 1) * b := Int.mul_le_mul_of_nonneg_left (by omega) (pow_nn ha _)
    have h2 : a ^ (k + 1) * b < b ^ (k + 1) * b := Int.mul_lt_mul_of_pos_right ih (by omega)
    omega
theorem lt_of_pow {a b : Int} (hb : 0 ≤ b) {k : Nat} (h : a ^ k < b ^ k) (ha : 0 ≤ a) : a < b := by
  refine Int.not_le.mp fun q => ?_
  have := pow_le hb q k
  omega
/-- the means of r (K times) and s -/
theorem means {r s : Int} (hr : 0 ≤ r) (hs : 0 ≤ s) (K : Nat) : ((K : Int) + 1) * s * r ^ K ≤ K * r ^ (K + 1) + s ^ (K + 1) := by
  induction K with
  | zero =>
    rw [Int.pow_succ s, Int.pow_zero, Int.pow_zero]
    simp
  | succ K ih =>
    have e1 : r ^ (K + 1) = r ^ K * r := Int.pow_succ ..
    have e2 : r ^ (K + 1 + 1) = r ^ K * r * r := by rw [Int.pow_succ, e1]
    have e3 : s ^ (K + 1 + 1) = s ^ (K + 1) * s := Int.pow_succ ..
    rw [e1] at ih
    rw [e2, e3, e1]
    clear e1 e2 e3
    have p := pow_nn hr K
    generalize r ^ K = u at *
    generalize s ^ (K + 1) = v at *
    have h1 : ((K : Int) + 1) * s * u * s ≤ (K * (u * r) + v) * s := Int.mul_le_mul_of_nonneg_right ih hs
    have h2 : 0 ≤ (((K : Int) + 1) * u) * ((r - s) * (r - s)) := Int.mul_nonneg (Int.mul_nonneg (by omega) p) (by
      by_cases q : 0 ≤ r - s
      · exact Int.mul_nonneg q q
      · have := Int.mul_nonneg (show 0 ≤ -(r - s) by omega) (show 0 ≤ -(r - s) by omega)
        rwa [Int.neg_mul_neg] at this)
    have c : ((K + 1 : Nat) : Int) = (K : Int) + 1 := by omega
    rw [c]
    grind
/-- Newton's step from r -/
def nxt (N r : Int) (K : Nat) : Int := ((K : Int) * r + N / r ^ K) / ((K : Int) + 1)
theorem nxt_ge {N r s : Int} {K : Nat} (hr : 0 < r) (hs : 0 ≤ s) (h : s ^ (K + 1) ≤ N) : s ≤ nxt N r K := by
  have p : 0 < r ^ K := Int.pow_pos hr
  have m := means (r := r) (s := s) (by omega) hs K
  have e1 : r ^ (K + 1) = r ^ K * r := Int.pow_succ ..
  rw [e1] at m
  refine (Int.le_ediv_iff_mul_le (by omega)).mpr ?_
  have q : ((K : Int) + 1) * s - K * r ≤ N / r ^ K := (Int.le_ediv_iff_mul_le p).mpr (by
    generalize r ^ K = u at *
    grind)
  grind
theorem nxt_lt {N r : Int} {K : Nat} (hr : 0 < r) (h : N < r ^ (K + 1)) : nxt N r K < r := by
  have p : 0 < r ^ K := Int.pow_pos hr
  have e1 : r ^ (K + 1) = r ^ K * r := Int.pow_succ ..
  rw [e1] at h
  have q : N / r ^ K < r := Int.ediv_lt_of_lt_mul p (by rw [Int.mul_comm]; exact h)
  refine Int.ediv_lt_of_lt_mul (by omega) ?_
  grind
/-- the whole root -/
def Rt (N r : Int) (k : Nat) : Prop := 0 ≤ r ∧ r ^ k ≤ N ∧ N < (r + 1) ^ k
theorem Rt.uniq {N r s : Int} {k : Nat} (h : Rt N r (k + 1)) (g : Rt N s (k + 1)) : r = s := by
  obtain ⟨h0, h1, h2⟩ := h
  obtain ⟨g0, g1, g2⟩ := g
  have a : r < s + 1 := lt_of_pow (k := k + 1) (by omega) (by omega) h0
  have b : s < r + 1 := lt_of_pow (k := k + 1) (by omega) (by omega) g0
  omega
theorem Rt.ex (N : Nat) (k : Nat) : ∃ s : Nat, Rt N s (k + 1) := by
  have H : ∀ m : Nat, (N : Int) < (m : Int) ^ (k + 1) → ∃ s : Nat, Rt N s (k + 1) := by
    intro m
    induction m with
    | zero =>
      intro h
      rw [show ((0 : Nat) : Int) = 0 from rfl, Int.zero_pow (by omega)] at h
      omega
    | succ m ih =>
      intro h
      by_cases q : (N : Int) < (m : Int) ^ (k + 1)
      · exact ih q
      · exact ⟨m, by omega, by omega, by exact_mod_cast h⟩
  refine H (N + 1) ?_
  have : ((N : Int) + 1) ^ 1 ≤ ((N : Int) + 1) ^ (k + 1) := by
    rw [Int.pow_succ, Int.pow_succ]
    have p : 0 < ((N : Int) + 1) ^ k := Int.pow_pos (by omega)
    refine Int.mul_le_mul ?_ (Int.le_refl _) (by omega) (by omega)
    rw [Int.pow_zero]
    omega
  rw [Int.pow_one] at this
  have e : ((N + 1 : Nat) : Int) = (N : Int) + 1 := by omega
  rw [e]
  omega
/-- at the end of Newton's steps -/
theorem newton_end {N r : Int} {K : Nat} (hr : 0 < r) (hN : 0 < N) (low : ∀ s, 0 ≤ s → s ^ (K + 1) ≤ N → s ≤ r) (h : ¬ nxt N r K < r) : Rt N r (K + 1) := by
  have h1 : r ^ (K + 1) ≤ N := Int.not_lt.mp fun q => h (nxt_lt hr q)
  refine ⟨by omega, h1, Int.not_le.mp fun q => ?_⟩
  have := low (r + 1) (by omega) q
  omega
theorem newton_step {N r : Int} {K : Nat} (hr : 0 < r) (hN : 0 < N) (low : ∀ s, 0 ≤ s → s ^ (K + 1) ≤ N → s ≤ r) : 0 < nxt N r K ∧ ∀ s, 0 ≤ s → s ^ (K + 1) ≤ N → s ≤ nxt N r K := by
  have g : ∀ s, 0 ≤ s → s ^ (K + 1) ≤ N → s ≤ nxt N r K := fun s s0 h => nxt_ge hr s0 h
  exact ⟨by have := g 1 (by decide) (by rw [Int.one_pow]; omega); omega, g⟩
/-- one more in the base -/
theorem pow_more {r : Int} (hr : 3 ≤ r) (k : Nat) : (r + 1) ^ k ≤ 2 ^ (k / 2 + 1) * r ^ k := by
  have two : ∀ j : Nat, (r + 1) ^ (2 * j) ≤ 2 ^ j * r ^ (2 * j) := by
    intro j
    induction j with
    | zero => simp
    | succ j ih =>
      rw [show 2 * (j + 1) = 2 * j + 1 + 1 by omega, Int.pow_succ, Int.pow_succ, Int.pow_succ r, Int.pow_succ r, Int.pow_succ 2]
      have h : (r + 1) * (r + 1) ≤ 2 * (r * r) := by
        have := Int.mul_nonneg (show 0 ≤ r - 3 by omega) (show 0 ≤ r by omega)
        grind
      have p : 0 ≤ (r + 1) * (r + 1) := Int.mul_nonneg (by omega) (by omega)
      have p2 : 0 ≤ 2 ^ j * r ^ (2 * j) := Int.mul_nonneg (pow_nn (by decide) j) (pow_nn (by omega) _)
      have := Int.mul_le_mul ih h p p2
      generalize (r + 1) ^ (2 * j) = u at *
      generalize r ^ (2 * j) = v at *
      generalize (2 : Int) ^ j = w at *
      grind
  rcases Nat.mod_two_eq_zero_or_one k with e | e
  · have ek : k = 2 * (k / 2) := by omega
    have := two (k / 2)
    rw [← ek] at this
    rw [Int.pow_succ]
    have p : 0 ≤ 2 ^ (k / 2) * r ^ k := Int.mul_nonneg (pow_nn (by decide) _) (pow_nn (by omega) _)
    generalize (2 : Int) ^ (k / 2) = w at *
    generalize r ^ k = v at *
    grind
  · have ek : k = 2 * (k / 2) + 1 := by omega
    have h := two (k / 2)
    generalize k / 2 = j at *
    subst ek
    rw [Int.pow_succ, Int.pow_succ r, Int.pow_succ 2]
    have p2 : 0 ≤ 2 ^ j * r ^ (2 * j) := Int.mul_nonneg (pow_nn (by decide) j) (pow_nn (by omega) _)
    have := Int.mul_le_mul h (show r + 1 ≤ 2 * r by omega) (by omega) p2
    generalize (r + 1) ^ (2 * j) = u at *
    generalize r ^ (2 * j) = v at *
    generalize (2 : Int) ^ j = w at *
    grind
end S02
set_option maxHeartbeats 0
namespace T
open PySem PySem.Spec PyProof.Rows L2 Z
def topS (i : Nat) : Stmt := PySem.Challenge.pw_belownought_k02_roots_of_fractions.main.body.getD i (.Pass ⟨0, 0, 0, 0⟩)
abbrev s_RatioD_initD : Stmt := inClass (topS 13) 0
theorem sc_RatioD_initD : FnScope (["self", "top", "bottom", "common"] : List Str) (["self", "top", "bottom"] : List Str) (defScope s_RatioD_initD) := ⟨rfl, rfl, rfl, by decide +kernel, rfl, by decide +kernel, by decide +kernel⟩
abbrev s_law_mod : Stmt := topS 25
theorem sc_law_mod : FnScope (["number", "size"] : List Str) (["number", "size"] : List Str) (defScope s_law_mod) := ⟨rfl, rfl, rfl, by decide +kernel, rfl, by decide +kernel, by decide +kernel⟩
abbrev s_law_common : Stmt := topS 26
theorem sc_law_common : FnScope (["one", "two", "rest"] : List Str) (["one", "two"] : List Str) (defScope s_law_common) := ⟨rfl, rfl, rfl, by decide +kernel, rfl, by decide +kernel, by decide +kernel⟩
abbrev s_law_power : Stmt := topS 27
theorem sc_law_power : FnScope (["base", "count", "total"] : List Str) (["base", "count"] : List Str) (defScope s_law_power) := ⟨rfl, rfl, rfl, by decide +kernel, rfl, by decide +kernel, by decide +kernel⟩
abbrev s_law_whole : Stmt := topS 32
theorem sc_law_whole : FnScope (["actual", "due"] : List Str) (["actual", "due"] : List Str) (defScope s_law_whole) := ⟨rfl, rfl, rfl, by decide +kernel, rfl, by decide +kernel, by decide +kernel⟩
abbrev s_law_below : Stmt := topS 34
theorem sc_law_below : FnScope (["actual", "top", "bottom", "k", "grain", "up", "under", "count", "due"] : List Str) (["actual", "top", "bottom", "k", "grain"] : List Str) (defScope s_law_below) := ⟨rfl, rfl, rfl, by decide +kernel, rfl, by decide +kernel, by decide +kernel⟩
abbrev s_law_cell : Stmt := topS 24
theorem sc_law_cell : FnScope (["script", "k"] : List Str) (["script", "k"] : List Str) (defScope s_law_cell) := ⟨rfl, rfl, rfl, by decide +kernel, rfl, by decide +kernel, by decide +kernel⟩
abbrev s_law_is : Stmt := topS 33
theorem sc_law_is : FnScope (["actual", "top", "bottom", "part"] : List Str) (["actual", "top", "bottom"] : List Str) (defScope s_law_is) := ⟨rfl, rfl, rfl, by decide +kernel, rfl, by decide +kernel, by decide +kernel⟩
abbrev s_law_root : Stmt := topS 28
theorem sc_law_root : FnScope (["number", "k", "high", "low", "middle"] : List Str) (["number", "k"] : List Str) (defScope s_law_root) := ⟨rfl, rfl, rfl, by decide +kernel, rfl, by decide +kernel, by decide +kernel⟩
abbrev s_law_exact : Stmt := topS 35
theorem sc_law_exact : FnScope (["actual", "top", "bottom", "k", "part", "up", "under"] : List Str) (["actual", "top", "bottom", "k"] : List Str) (defScope s_law_exact) := ⟨rfl, rfl, rfl, by decide +kernel, rfl, by decide +kernel, by decide +kernel⟩
abbrev s_NegativeD_initD : Stmt := inClass (topS 8) 0
theorem sc_NegativeD_initD : FnScope (["self", "ratio"] : List Str) (["self", "ratio"] : List Str) (defScope s_NegativeD_initD) := ⟨rfl, rfl, rfl, by decide +kernel, rfl, by decide +kernel, by decide +kernel⟩
abbrev s_Ratio_sign : Stmt := inClass (topS 13) 11
theorem sc_Ratio_sign : FnScope (["self"] : List Str) (["self"] : List Str) (defScope s_Ratio_sign) := ⟨rfl, rfl, rfl, by decide +kernel, rfl, by decide +kernel, by decide +kernel⟩
abbrev s_OutOfBoundsD_initD : Stmt := inClass (topS 6) 0
theorem sc_OutOfBoundsD_initD : FnScope (["self", "value"] : List Str) (["self", "value"] : List Str) (defScope s_OutOfBoundsD_initD) := ⟨rfl, rfl, rfl, by decide +kernel, rfl, by decide +kernel, by decide +kernel⟩
abbrev s_check_number : Stmt := topS 10
theorem sc_check_number : FnScope (["value", "low", "high"] : List Str) (["value", "low", "high"] : List Str) (defScope s_check_number) := ⟨rfl, rfl, rfl, by decide +kernel, rfl, by decide +kernel, by decide +kernel⟩
abbrev s_whole_power : Stmt := topS 14
theorem sc_whole_power : FnScope (["number", "exponent", "power", "place"] : List Str) (["number", "exponent"] : List Str) (defScope s_whole_power) := ⟨rfl, rfl, rfl, by decide +kernel, rfl, by decide +kernel, by decide +kernel⟩
abbrev s_whole_root : Stmt := topS 18
theorem sc_whole_root : FnScope (["number", "k", "low", "root", "middle", "lesser"] : List Str) (["number", "k"] : List Str) (defScope s_whole_root) := ⟨rfl, rfl, rfl, by decide +kernel, rfl, by decide +kernel, by decide +kernel⟩
abbrev s_exact_root : Stmt := topS 20
theorem sc_exact_root : FnScope (["ratio", "k", "top", "bottom"] : List Str) (["ratio", "k"] : List Str) (defScope s_exact_root) := ⟨rfl, rfl, rfl, by decide +kernel, rfl, by decide +kernel, by decide +kernel⟩
abbrev s_law_exact_error : Stmt := topS 37
theorem sc_law_exact_error : FnScope (["ratio", "k", "e"] : List Str) (["ratio", "k"] : List Str) (defScope s_law_exact_error) := ⟨rfl, rfl, rfl, by decide +kernel, rfl, by decide +kernel, by decide +kernel⟩
abbrev s_law_exponent : Stmt := topS 29
theorem sc_law_exponent : FnScope (["script", "size", "cell"] : List Str) (["script", "size"] : List Str) (defScope s_law_exponent) := ⟨rfl, rfl, rfl, by decide +kernel, rfl, by decide +kernel, by decide +kernel⟩
abbrev s_law_fraction : Stmt := topS 30
theorem sc_law_fraction : FnScope (["script", "size", "k", "kind", "most", "p", "q", "top"] : List Str) (["script", "size", "k"] : List Str) (defScope s_law_fraction) := ⟨rfl, rfl, rfl, by decide +kernel, rfl, by decide +kernel, by decide +kernel⟩
abbrev s_law_grain : Stmt := topS 31
theorem sc_law_grain : FnScope (["script", "size", "k", "drawn", "way", "most", "q"] : List Str) (["script", "size", "k"] : List Str) (defScope s_law_grain) := ⟨rfl, rfl, rfl, by decide +kernel, rfl, by decide +kernel, by decide +kernel⟩
abbrev s_law_due : Stmt := topS 46
theorem sc_law_due : FnScope (["first", "second", "rows", "row"] : List Str) (["first", "second"] : List Str) (defScope s_law_due) := ⟨rfl, rfl, rfl, by decide +kernel, rfl, by decide +kernel, by decide +kernel⟩
abbrev s_law_handed : Stmt := topS 41
theorem sc_law_handed : FnScope (["rows", "row"] : List Str) (["rows"] : List Str) (defScope s_law_handed) := ⟨rfl, rfl, rfl, by decide +kernel, rfl, by decide +kernel, by decide +kernel⟩
abbrev s_TooHeavyD_initD : Stmt := inClass (topS 9) 0
theorem sc_TooHeavyD_initD : FnScope (["self", "work"] : List Str) (["self", "work"] : List Str) (defScope s_TooHeavyD_initD) := ⟨rfl, rfl, rfl, by decide +kernel, rfl, by decide +kernel, by decide +kernel⟩
abbrev s_BadSizeD_initD : Stmt := inClass (topS 7) 0
theorem sc_BadSizeD_initD : FnScope (["self", "size"] : List Str) (["self", "size"] : List Str) (defScope s_BadSizeD_initD) := ⟨rfl, rfl, rfl, by decide +kernel, rfl, by decide +kernel, by decide +kernel⟩
abbrev s_check_size : Stmt := topS 11
theorem sc_check_size : FnScope (["things", "low", "high", "size"] : List Str) (["things", "low", "high"] : List Str) (defScope s_check_size) := ⟨rfl, rfl, rfl, by decide +kernel, rfl, by decide +kernel, by decide +kernel⟩
abbrev s_check_factors : Stmt := topS 21
theorem sc_check_factors : FnScope (["factors", "total", "ratio", "exponent"] : List Str) (["factors"] : List Str) (defScope s_check_factors) := ⟨rfl, rfl, rfl, by decide +kernel, rfl, by decide +kernel, by decide +kernel⟩
abbrev s_compare_products : Stmt := topS 22
theorem sc_compare_products : FnScope (["first", "second", "work", "left", "right", "ratio", "exponent"] : List Str) (["first", "second"] : List Str) (defScope s_compare_products) := ⟨rfl, rfl, rfl, by decide +kernel, rfl, by decide +kernel, by decide +kernel⟩
abbrev s_law_product_error : Stmt := topS 47
theorem sc_law_product_error : FnScope (["first", "second", "due", "e"] : List Str) (["first", "second"] : List Str) (defScope s_law_product_error) := ⟨rfl, rfl, rfl, by decide +kernel, rfl, by decide +kernel, by decide +kernel⟩
abbrev s_law_compared : Stmt := topS 43
theorem sc_law_compared : FnScope (["first", "second", "sides", "rows", "top", "bottom", "row", "left", "right"] : List Str) (["first", "second"] : List Str) (defScope s_law_compared) := ⟨rfl, rfl, rfl, by decide +kernel, rfl, by decide +kernel, by decide +kernel⟩
abbrev s_law_stays : Stmt := topS 42
theorem sc_law_stays : FnScope (["handed", "rows", "k", "pair", "row"] : List Str) (["handed", "rows"] : List Str) (defScope s_law_stays) := ⟨rfl, rfl, rfl, by decide +kernel, rfl, by decide +kernel, by decide +kernel⟩
abbrev s_law_products : Stmt := topS 44
theorem sc_law_products : FnScope (["first", "second", "one", "two", "due", "row"] : List Str) (["first", "second"] : List Str) (defScope s_law_products) := ⟨rfl, rfl, rfl, by decide +kernel, rfl, by decide +kernel, by decide +kernel⟩
abbrev s_law_heavy : Stmt := topS 48
theorem sc_law_heavy : FnScope (["script", "size", "a", "p", "q", "first"] : List Str) (["script", "size"] : List Str) (defScope s_law_heavy) := ⟨rfl, rfl, rfl, by decide +kernel, rfl, by decide +kernel, by decide +kernel⟩
abbrev s_law_many : Stmt := topS 49
theorem sc_law_many : FnScope (["first", "second", "long", "full"] : List Str) (["first", "second"] : List Str) (defScope s_law_many) := ⟨rfl, rfl, rfl, by decide +kernel, rfl, by decide +kernel, by decide +kernel⟩
abbrev s_root_below : Stmt := topS 19
theorem sc_root_below : FnScope (["ratio", "k", "grain"] : List Str) (["ratio", "k", "grain"] : List Str) (defScope s_root_below) := ⟨rfl, rfl, rfl, by decide +kernel, rfl, by decide +kernel, by decide +kernel⟩
abbrev s_law_negative : Stmt := topS 38
theorem sc_law_negative : FnScope (["top", "bottom", "k", "grain", "ratio", "told", "e"] : List Str) (["top", "bottom", "k", "grain"] : List Str) (defScope s_law_negative) := ⟨rfl, rfl, rfl, by decide +kernel, rfl, by decide +kernel, by decide +kernel⟩
abbrev s_law_odd : Stmt := topS 45
theorem sc_law_odd : FnScope (["script", "at", "kind", "p", "more"] : List Str) (["script", "at"] : List Str) (defScope s_law_odd) := ⟨rfl, rfl, rfl, by decide +kernel, rfl, by decide +kernel, by decide +kernel⟩
abbrev s_law_put : Stmt := topS 50
theorem sc_law_put : FnScope (["rows", "place", "row", "at"] : List Str) (["rows", "place", "row"] : List Str) (defScope s_law_put) := ⟨rfl, rfl, rfl, by decide +kernel, rfl, by decide +kernel, by decide +kernel⟩
abbrev s_law_root_error : Stmt := topS 36
theorem sc_law_root_error : FnScope (["ratio", "k", "grain", "due", "e"] : List Str) (["ratio", "k", "grain", "due"] : List Str) (defScope s_law_root_error) := ⟨rfl, rfl, rfl, by decide +kernel, rfl, by decide +kernel, by decide +kernel⟩
abbrev s_law_rows : Stmt := topS 39
theorem sc_law_rows : FnScope (["script", "at", "size", "count", "rows", "j", "p", "q", "count_of"] : List Str) (["script", "at", "size"] : List Str) (defScope s_law_rows) := ⟨rfl, rfl, rfl, by decide +kernel, rfl, by decide +kernel, by decide +kernel⟩
abbrev s_law_turned : Stmt := topS 40
theorem sc_law_turned : FnScope (["rows", "kind", "y", "out", "row", "p", "q", "half", "rest"] : List Str) (["rows", "kind", "y"] : List Str) (defScope s_law_turned) := ⟨rfl, rfl, rfl, by decide +kernel, rfl, by decide +kernel, by decide +kernel⟩
abbrev s_law : Stmt := topS 51
theorem sc_law : FnScope (["script", "size", "k", "pair", "grain", "top", "bottom", "ratio", "told", "far", "wrong", "first", "second", "kind", "both"] : List Str) (["script"] : List Str) (defScope s_law) := ⟨rfl, rfl, rfl, by decide +kernel, rfl, by decide +kernel, by decide +kernel⟩
def df_RatioD_initD : He5.DefA := ⟨fun K => He.fAd K ("Ratio", some "__init__"), "__init__", "Ratio.__init__", defArgs s_RatioD_initD, defBody s_RatioD_initD, defScope s_RatioD_initD, [.int 1], []⟩
def df_law_mod : He5.DefA := ⟨fun K => He.fAd K ("_law_mod", none), "_law_mod", "_law_mod", defArgs s_law_mod, defBody s_law_mod, defScope s_law_mod, [], []⟩
def df_law_common : He5.DefA := ⟨fun K => He.fAd K ("_law_common", none), "_law_common", "_law_common", defArgs s_law_common, defBody s_law_common, defScope s_law_common, [], []⟩
def df_law_power : He5.DefA := ⟨fun K => He.fAd K ("_law_power", none), "_law_power", "_law_power", defArgs s_law_power, defBody s_law_power, defScope s_law_power, [], []⟩
def df_law_whole : He5.DefA := ⟨fun K => He.fAd K ("_law_whole", none), "_law_whole", "_law_whole", defArgs s_law_whole, defBody s_law_whole, defScope s_law_whole, [], []⟩
def df_law_below : He5.DefA := ⟨fun K => He.fAd K ("_law_below", none), "_law_below", "_law_below", defArgs s_law_below, defBody s_law_below, defScope s_law_below, [], []⟩
def df_law_cell : He5.DefA := ⟨fun K => He.fAd K ("_law_cell", none), "_law_cell", "_law_cell", defArgs s_law_cell, defBody s_law_cell, defScope s_law_cell, [], []⟩
def df_law_is : He5.DefA := ⟨fun K => He.fAd K ("_law_is", none), "_law_is", "_law_is", defArgs s_law_is, defBody s_law_is, defScope s_law_is, [], []⟩
def df_law_root : He5.DefA := ⟨fun K => He.fAd K ("_law_root", none), "_law_root", "_law_root", defArgs s_law_root, defBody s_law_root, defScope s_law_root, [], []⟩
def df_law_exact : He5.DefA := ⟨fun K => He.fAd K ("_law_exact", none), "_law_exact", "_law_exact", defArgs s_law_exact, defBody s_law_exact, defScope s_law_exact, [], []⟩
def df_NegativeD_initD : He5.DefA := ⟨fun K => He.fAd K ("Negative", some "__init__"), "__init__", "Negative.__init__", defArgs s_NegativeD_initD, defBody s_NegativeD_initD, defScope s_NegativeD_initD, [], []⟩
def df_Ratio_sign : He5.DefA := ⟨fun K => He.fAd K ("Ratio", some "sign"), "sign", "Ratio.sign", defArgs s_Ratio_sign, defBody s_Ratio_sign, defScope s_Ratio_sign, [], []⟩
def df_OutOfBoundsD_initD : He5.DefA := ⟨fun K => He.fAd K ("OutOfBounds", some "__init__"), "__init__", "OutOfBounds.__init__", defArgs s_OutOfBoundsD_initD, defBody s_OutOfBoundsD_initD, defScope s_OutOfBoundsD_initD, [], []⟩
def df_check_number : He5.DefA := ⟨fun K => He.fAd K ("check_number", none), "check_number", "check_number", defArgs s_check_number, defBody s_check_number, defScope s_check_number, [.non], []⟩
def df_whole_power : He5.DefA := ⟨fun K => He.fAd K ("whole_power", none), "whole_power", "whole_power", defArgs s_whole_power, defBody s_whole_power, defScope s_whole_power, [], []⟩
def df_whole_root : He5.DefA := ⟨fun K => He.fAd K ("whole_root", none), "whole_root", "whole_root", defArgs s_whole_root, defBody s_whole_root, defScope s_whole_root, [], []⟩
def df_exact_root : He5.DefA := ⟨fun K => He.fAd K ("exact_root", none), "exact_root", "exact_root", defArgs s_exact_root, defBody s_exact_root, defScope s_exact_root, [], []⟩
def df_law_exact_error : He5.DefA := ⟨fun K => He.fAd K ("_law_exact_error", none), "_law_exact_error", "_law_exact_error", defArgs s_law_exact_error, defBody s_law_exact_error, defScope s_law_exact_error, [], []⟩
def df_law_exponent : He5.DefA := ⟨fun K => He.fAd K ("_law_exponent", none), "_law_exponent", "_law_exponent", defArgs s_law_exponent, defBody s_law_exponent, defScope s_law_exponent, [], []⟩
def df_law_fraction : He5.DefA := ⟨fun K => He.fAd K ("_law_fraction", none), "_law_fraction", "_law_fraction", defArgs s_law_fraction, defBody s_law_fraction, defScope s_law_fraction, [], []⟩
def df_law_grain : He5.DefA := ⟨fun K => He.fAd K ("_law_grain", none), "_law_grain", "_law_grain", defArgs s_law_grain, defBody s_law_grain, defScope s_law_grain, [], []⟩
def df_law_due : He5.DefA := ⟨fun K => He.fAd K ("_law_due", none), "_law_due", "_law_due", defArgs s_law_due, defBody s_law_due, defScope s_law_due, [], []⟩
def df_law_handed : He5.DefA := ⟨fun K => He.fAd K ("_law_handed", none), "_law_handed", "_law_handed", defArgs s_law_handed, defBody s_law_handed, defScope s_law_handed, [], []⟩
def df_TooHeavyD_initD : He5.DefA := ⟨fun K => He.fAd K ("TooHeavy", some "__init__"), "__init__", "TooHeavy.__init__", defArgs s_TooHeavyD_initD, defBody s_TooHeavyD_initD, defScope s_TooHeavyD_initD, [], []⟩
def df_BadSizeD_initD : He5.DefA := ⟨fun K => He.fAd K ("BadSize", some "__init__"), "__init__", "BadSize.__init__", defArgs s_BadSizeD_initD, defBody s_BadSizeD_initD, defScope s_BadSizeD_initD, [], []⟩
def df_check_size : He5.DefA := ⟨fun K => He.fAd K ("check_size", none), "check_size", "check_size", defArgs s_check_size, defBody s_check_size, defScope s_check_size, [], []⟩
def df_check_factors : He5.DefA := ⟨fun K => He.fAd K ("check_factors", none), "check_factors", "check_factors", defArgs s_check_factors, defBody s_check_factors, defScope s_check_factors, [], []⟩
def df_compare_products : He5.DefA := ⟨fun K => He.fAd K ("compare_products", none), "compare_products", "compare_products", defArgs s_compare_products, defBody s_compare_products, defScope s_compare_products, [], []⟩
def df_law_product_error : He5.DefA := ⟨fun K => He.fAd K ("_law_product_error", none), "_law_product_error", "_law_product_error", defArgs s_law_product_error, defBody s_law_product_error, defScope s_law_product_error, [], []⟩
def df_law_compared : He5.DefA := ⟨fun K => He.fAd K ("_law_compared", none), "_law_compared", "_law_compared", defArgs s_law_compared, defBody s_law_compared, defScope s_law_compared, [], []⟩
def df_law_stays : He5.DefA := ⟨fun K => He.fAd K ("_law_stays", none), "_law_stays", "_law_stays", defArgs s_law_stays, defBody s_law_stays, defScope s_law_stays, [], []⟩
def df_law_products : He5.DefA := ⟨fun K => He.fAd K ("_law_products", none), "_law_products", "_law_products", defArgs s_law_products, defBody s_law_products, defScope s_law_products, [], []⟩
def df_law_heavy : He5.DefA := ⟨fun K => He.fAd K ("_law_heavy", none), "_law_heavy", "_law_heavy", defArgs s_law_heavy, defBody s_law_heavy, defScope s_law_heavy, [], []⟩
def df_law_many : He5.DefA := ⟨fun K => He.fAd K ("_law_many", none), "_law_many", "_law_many", defArgs s_law_many, defBody s_law_many, defScope s_law_many, [], []⟩
def df_root_below : He5.DefA := ⟨fun K => He.fAd K ("root_below", none), "root_below", "root_below", defArgs s_root_below, defBody s_root_below, defScope s_root_below, [], []⟩
def df_law_negative : He5.DefA := ⟨fun K => He.fAd K ("_law_negative", none), "_law_negative", "_law_negative", defArgs s_law_negative, defBody s_law_negative, defScope s_law_negative, [], []⟩
def df_law_odd : He5.DefA := ⟨fun K => He.fAd K ("_law_odd", none), "_law_odd", "_law_odd", defArgs s_law_odd, defBody s_law_odd, defScope s_law_odd, [], []⟩
def df_law_put : He5.DefA := ⟨fun K => He.fAd K ("_law_put", none), "_law_put", "_law_put", defArgs s_law_put, defBody s_law_put, defScope s_law_put, [], []⟩
def df_law_root_error : He5.DefA := ⟨fun K => He.fAd K ("_law_root_error", none), "_law_root_error", "_law_root_error", defArgs s_law_root_error, defBody s_law_root_error, defScope s_law_root_error, [], []⟩
def df_law_rows : He5.DefA := ⟨fun K => He.fAd K ("_law_rows", none), "_law_rows", "_law_rows", defArgs s_law_rows, defBody s_law_rows, defScope s_law_rows, [], []⟩
def df_law_turned : He5.DefA := ⟨fun K => He.fAd K ("_law_turned", none), "_law_turned", "_law_turned", defArgs s_law_turned, defBody s_law_turned, defScope s_law_turned, [], []⟩
def df_law : He5.DefA := ⟨fun K => He.fAd K ("law", none), "law", "law", defArgs s_law, defBody s_law, defScope s_law, [], []⟩
def fn : List He5.DefA := [df_RatioD_initD, df_law_mod, df_law_common, df_law_power, df_law_whole, df_law_below, df_law_cell, df_law_is, df_law_root, df_law_exact, df_NegativeD_initD, df_Ratio_sign, df_OutOfBoundsD_initD, df_check_number, df_whole_power, df_whole_root, df_exact_root, df_law_exact_error, df_law_exponent, df_law_fraction, df_law_grain, df_law_due, df_law_handed, df_TooHeavyD_initD, df_BadSizeD_initD, df_check_size, df_check_factors, df_compare_products, df_law_product_error, df_law_compared, df_law_stays, df_law_products, df_law_heavy, df_law_many, df_root_below, df_law_negative, df_law_odd, df_law_put, df_law_root_error, df_law_rows, df_law_turned, df_law]
def fb : List Chk := [cGlo "BadSize", cGlo "Negative", cGlo "NoughtError", cGlo "OutOfBounds", cGlo "Ratio", cGlo "TooHeavy", cGlo "ZeroBottom", cGlo "_law_below", cGlo "_law_cell", cGlo "_law_common", cGlo "_law_compared", cGlo "_law_due", cGlo "_law_exact", cGlo "_law_exact_error", cGlo "_law_exponent", cGlo "_law_fraction", cGlo "_law_grain", cGlo "_law_handed", cGlo "_law_heavy", cGlo "_law_is", cGlo "_law_many", cGlo "_law_mod", cGlo "_law_negative", cGlo "_law_odd", cGlo "_law_power", cGlo "_law_product_error", cGlo "_law_products", cGlo "_law_put", cGlo "_law_root", cGlo "_law_root_error", cGlo "_law_rows", cGlo "_law_stays", cGlo "_law_turned", cGlo "_law_whole", cGlo "check_factors", cGlo "check_number", cGlo "check_size", cGlo "compare_products", cGlo "exact_root", cGlo "law", cGlo "root_below", cGlo "whole_power", cGlo "whole_root", cFree "abs", cFree "bool", cVal "gcd" "math.gcd", cFree "int", cFree "isinstance", cFree "len", cFree "min", cFree "range", cFree "sum", cFree "tuple", cCls "Ratio", cIns "Ratio", cMk "Ratio", cSelf "Ratio", cNo "Ratio" "bottom", cNo "Ratio" "top", cMeth "Ratio" "sign", cOex "BadSize", cNo "BadSize" "size", cOex "Negative", cNo "Negative" "ratio", cOex "OutOfBounds", cNo "OutOfBounds" "value", cOex "TooHeavy", cNo "TooHeavy" "work", cExc0 "ZeroBottom", cExm "BadSize" "BadSize" true, cExm "BadSize" "Negative" false, cExm "BadSize" "OutOfBounds" false, cExm "BadSize" "TooHeavy" false, cExm "Negative" "BadSize" false, cExm "Negative" "Negative" true, cExm "Negative" "OutOfBounds" false, cExm "Negative" "TooHeavy" false, cExm "OutOfBounds" "BadSize" false, cExm "OutOfBounds" "Negative" false, cExm "OutOfBounds" "OutOfBounds" true, cExm "OutOfBounds" "TooHeavy" false, cExm "TooHeavy" "BadSize" false, cExm "TooHeavy" "Negative" false, cExm "TooHeavy" "OutOfBounds" false, cExm "TooHeavy" "TooHeavy" true, cExm "ZeroBottom" "BadSize" false, cExm "ZeroBottom" "Negative" false, cExm "ZeroBottom" "OutOfBounds" false, cExm "ZeroBottom" "TooHeavy" false, cExcC "BadSize", cExcC "Negative", cExcC "OutOfBounds", cExcC "TooHeavy", cExcC "ZeroBottom", cKit "Ratio" "Ratio" true, cKit "OutOfBounds" "NoughtError" true, cKit "OutOfBounds" "OutOfBounds" true, cKit "OutOfBounds" "BadSize" false, cKit "OutOfBounds" "Negative" false, cKit "OutOfBounds" "TooHeavy" false, cKit "BadSize" "NoughtError" true, cKit "BadSize" "OutOfBounds" false, cKit "BadSize" "BadSize" true, cKit "BadSize" "Negative" false, cKit "BadSize" "TooHeavy" false, cKit "Negative" "NoughtError" true, cKit "Negative" "OutOfBounds" false, cKit "Negative" "BadSize" false, cKit "Negative" "Negative" true, cKit "Negative" "TooHeavy" false, cKit "TooHeavy" "NoughtError" true, cKit "TooHeavy" "OutOfBounds" false, cKit "TooHeavy" "BadSize" false, cKit "TooHeavy" "Negative" false, cKit "TooHeavy" "TooHeavy" true]
abbrev Lw (K : Frag) (mg : Str → Option Value) : Prop := LwB fb fn K mg
section
variable {K : Frag} {mg : Str → Option Value}
theorem Lw.g_BadSize (L : Lw K mg) : mg "BadSize" = some (.ref (He.ga K "BadSize")) := by
  obtain ⟨h, X, G⟩ := L.at_
  exact He.glo_ok X G (L.c.fact 0 rfl)
theorem Lw.g_Negative (L : Lw K mg) : mg "Negative" = some (.ref (He.ga K "Negative")) := by
  obtain ⟨h, X, G⟩ := L.at_
  exact He.glo_ok X G (L.c.fact 1 rfl)
theorem Lw.g_NoughtError (L : Lw K mg) : mg "NoughtError" = some (.ref (He.ga K "NoughtError")) := by
  obtain ⟨h, X, G⟩ := L.at_
  exact He.glo_ok X G (L.c.fact 2 rfl)
theorem Lw.g_OutOfBounds (L : Lw K mg) : mg "OutOfBounds" = some (.ref (He.ga K "OutOfBounds")) := by
  obtain ⟨h, X, G⟩ := L.at_
  exact He.glo_ok X G (L.c.fact 3 rfl)
theorem Lw.g_Ratio (L : Lw K mg) : mg "Ratio" = some (.ref (He.ga K "Ratio")) := by
  obtain ⟨h, X, G⟩ := L.at_
  exact He.glo_ok X G (L.c.fact 4 rfl)
theorem Lw.g_TooHeavy (L : Lw K mg) : mg "TooHeavy" = some (.ref (He.ga K "TooHeavy")) := by
  obtain ⟨h, X, G⟩ := L.at_
  exact He.glo_ok X G (L.c.fact 5 rfl)
theorem Lw.g_ZeroBottom (L : Lw K mg) : mg "ZeroBottom" = some (.ref (He.ga K "ZeroBottom")) := by
  obtain ⟨h, X, G⟩ := L.at_
  exact He.glo_ok X G (L.c.fact 6 rfl)
theorem Lw.g_law_below (L : Lw K mg) : mg "_law_below" = some (.ref (He.ga K "_law_below")) := by
  obtain ⟨h, X, G⟩ := L.at_
  exact He.glo_ok X G (L.c.fact 7 rfl)
theorem Lw.g_law_cell (L : Lw K mg) : mg "_law_cell" = some (.ref (He.ga K "_law_cell")) := by
  obtain ⟨h, X, G⟩ := L.at_
  exact He.glo_ok X G (L.c.fact 8 rfl)
theorem Lw.g_law_common (L : Lw K mg) : mg "_law_common" = some (.ref (He.ga K "_law_common")) := by
  obtain ⟨h, X, G⟩ := L.at_
  exact He.glo_ok X G (L.c.fact 9 rfl)
theorem Lw.g_law_compared (L : Lw K mg) : mg "_law_compared" = some (.ref (He.ga K "_law_compared")) := by
  obtain ⟨h, X, G⟩ := L.at_
  exact He.glo_ok X G (L.c.fact 10 rfl)
theorem Lw.g_law_due (L : Lw K mg) : mg "_law_due" = some (.ref (He.ga K "_law_due")) := by
  obtain ⟨h, X, G⟩ := L.at_
  exact He.glo_ok X G (L.c.fact 11 rfl)
theorem Lw.g_law_exact (L : Lw K mg) : mg "_law_exact" = some (.ref (He.ga K "_law_exact")) := by
  obtain ⟨h, X, G⟩ := L.at_
  exact He.glo_ok X G (L.c.fact 12 rfl)
theorem Lw.g_law_exact_error (L : Lw K mg) : mg "_law_exact_error" = some (.ref (He.ga K "_law_exact_error")) := by
  obtain ⟨h, X, G⟩ := L.at_
  exact He.glo_ok X G (L.c.fact 13 rfl)
theorem Lw.g_law_exponent (L : Lw K mg) : mg "_law_exponent" = some (.ref (He.ga K "_law_exponent")) := by
  obtain ⟨h, X, G⟩ := L.at_
  exact He.glo_ok X G (L.c.fact 14 rfl)
theorem Lw.g_law_fraction (L : Lw K mg) : mg "_law_fraction" = some (.ref (He.ga K "_law_fraction")) := by
  obtain ⟨h, X, G⟩ := L.at_
  exact He.glo_ok X G (L.c.fact 15 rfl)
theorem Lw.g_law_grain (L : Lw K mg) : mg "_law_grain" = some (.ref (He.ga K "_law_grain")) := by
  obtain ⟨h, X, G⟩ := L.at_
  exact He.glo_ok X G (L.c.fact 16 rfl)
theorem Lw.g_law_handed (L : Lw K mg) : mg "_law_handed" = some (.ref (He.ga K "_law_handed")) := by
  obtain ⟨h, X, G⟩ := L.at_
  exact He.glo_ok X G (L.c.fact 17 rfl)
theorem Lw.g_law_heavy (L : Lw K mg) : mg "_law_heavy" = some (.ref (He.ga K "_law_heavy")) := by
  obtain ⟨h, X, G⟩ := L.at_
  exact He.glo_ok X G (L.c.fact 18 rfl)
theorem Lw.g_law_is (L : Lw K mg) : mg "_law_is" = some (.ref (He.ga K "_law_is")) := by
  obtain ⟨h, X, G⟩ := L.at_
  exact He.glo_ok X G (L.c.fact 19 rfl)
theorem Lw.g_law_many (L : Lw K mg) : mg "_law_many" = some (.ref (He.ga K "_law_many")) := by
  obtain ⟨h, X, G⟩ := L.at_
  exact He.glo_ok X G (L.c.fact 20 rfl)
theorem Lw.g_law_mod (L : Lw K mg) : mg "_law_mod" = some (.ref (He.ga K "_law_mod")) := by
  obtain ⟨h, X, G⟩ := L.at_
  exact He.glo_ok X G (L.c.fact 21 rfl)
theorem Lw.g_law_negative (L : Lw K mg) : mg "_law_negative" = some (.ref (He.ga K "_law_negative")) := by
  obtain ⟨h, X, G⟩ := L.at_
  exact He.glo_ok X G (L.c.fact 22 rfl)
theorem Lw.g_law_odd (L : Lw K mg) : mg "_law_odd" = some (.ref (He.ga K "_law_odd")) := by
  obtain ⟨h, X, G⟩ := L.at_
  exact He.glo_ok X G (L.c.fact 23 rfl)
theorem Lw.g_law_power (L : Lw K mg) : mg "_law_power" = some (.ref (He.ga K "_law_power")) := by
  obtain ⟨h, X, G⟩ := L.at_
  exact He.glo_ok X G (L.c.fact 24 rfl)
theorem Lw.g_law_product_error (L : Lw K mg) : mg "_law_product_error" = some (.ref (He.ga K "_law_product_error")) := by
  obtain ⟨h, X, G⟩ := L.at_
  exact He.glo_ok X G (L.c.fact 25 rfl)
theorem Lw.g_law_products (L : Lw K mg) : mg "_law_products" = some (.ref (He.ga K "_law_products")) := by
  obtain ⟨h, X, G⟩ := L.at_
  exact He.glo_ok X G (L.c.fact 26 rfl)
theorem Lw.g_law_put (L : Lw K mg) : mg "_law_put" = some (.ref (He.ga K "_law_put")) := by
  obtain ⟨h, X, G⟩ := L.at_
  exact He.glo_ok X G (L.c.fact 27 rfl)
theorem Lw.g_law_root (L : Lw K mg) : mg "_law_root" = some (.ref (He.ga K "_law_root")) := by
  obtain ⟨h, X, G⟩ := L.at_
  exact He.glo_ok X G (L.c.fact 28 rfl)
theorem Lw.g_law_root_error (L : Lw K mg) : mg "_law_root_error" = some (.ref (He.ga K "_law_root_error")) := by
  obtain ⟨h, X, G⟩ := L.at_
  exact He.glo_ok X G (L.c.fact 29 rfl)
theorem Lw.g_law_rows (L : Lw K mg) : mg "_law_rows" = some (.ref (He.ga K "_law_rows")) := by
  obtain ⟨h, X, G⟩ := L.at_
  exact He.glo_ok X G (L.c.fact 30 rfl)
theorem Lw.g_law_stays (L : Lw K mg) : mg "_law_stays" = some (.ref (He.ga K "_law_stays")) := by
  obtain ⟨h, X, G⟩ := L.at_
  exact He.glo_ok X G (L.c.fact 31 rfl)
theorem Lw.g_law_turned (L : Lw K mg) : mg "_law_turned" = some (.ref (He.ga K "_law_turned")) := by
  obtain ⟨h, X, G⟩ := L.at_
  exact He.glo_ok X G (L.c.fact 32 rfl)
theorem Lw.g_law_whole (L : Lw K mg) : mg "_law_whole" = some (.ref (He.ga K "_law_whole")) := by
  obtain ⟨h, X, G⟩ := L.at_
  exact He.glo_ok X G (L.c.fact 33 rfl)
theorem Lw.g_check_factors (L : Lw K mg) : mg "check_factors" = some (.ref (He.ga K "check_factors")) := by
  obtain ⟨h, X, G⟩ := L.at_
  exact He.glo_ok X G (L.c.fact 34 rfl)
theorem Lw.g_check_number (L : Lw K mg) : mg "check_number" = some (.ref (He.ga K "check_number")) := by
  obtain ⟨h, X, G⟩ := L.at_
  exact He.glo_ok X G (L.c.fact 35 rfl)
theorem Lw.g_check_size (L : Lw K mg) : mg "check_size" = some (.ref (He.ga K "check_size")) := by
  obtain ⟨h, X, G⟩ := L.at_
  exact He.glo_ok X G (L.c.fact 36 rfl)
theorem Lw.g_compare_products (L : Lw K mg) : mg "compare_products" = some (.ref (He.ga K "compare_products")) := by
  obtain ⟨h, X, G⟩ := L.at_
  exact He.glo_ok X G (L.c.fact 37 rfl)
theorem Lw.g_exact_root (L : Lw K mg) : mg "exact_root" = some (.ref (He.ga K "exact_root")) := by
  obtain ⟨h, X, G⟩ := L.at_
  exact He.glo_ok X G (L.c.fact 38 rfl)
theorem Lw.g_law (L : Lw K mg) : mg "law" = some (.ref (He.ga K "law")) := by
  obtain ⟨h, X, G⟩ := L.at_
  exact He.glo_ok X G (L.c.fact 39 rfl)
theorem Lw.g_root_below (L : Lw K mg) : mg "root_below" = some (.ref (He.ga K "root_below")) := by
  obtain ⟨h, X, G⟩ := L.at_
  exact He.glo_ok X G (L.c.fact 40 rfl)
theorem Lw.g_whole_power (L : Lw K mg) : mg "whole_power" = some (.ref (He.ga K "whole_power")) := by
  obtain ⟨h, X, G⟩ := L.at_
  exact He.glo_ok X G (L.c.fact 41 rfl)
theorem Lw.g_whole_root (L : Lw K mg) : mg "whole_root" = some (.ref (He.ga K "whole_root")) := by
  obtain ⟨h, X, G⟩ := L.at_
  exact He.glo_ok X G (L.c.fact 42 rfl)
theorem Lw.f_abs (L : Lw K mg) : mg "abs" = none := by
  obtain ⟨h, X, G⟩ := L.at_
  exact He.free_ok X G (L.c.fact 43 rfl)
theorem Lw.f_bool (L : Lw K mg) : mg "bool" = none := by
  obtain ⟨h, X, G⟩ := L.at_
  exact He.free_ok X G (L.c.fact 44 rfl)
theorem Lw.v_gcd (L : Lw K mg) : mg "gcd" = some (.builtin "math.gcd") := by
  obtain ⟨h, X, G⟩ := L.at_
  exact PySem.W.mg_of X G (He.eqO_ok (L.c.fact 45 rfl))
theorem Lw.f_int (L : Lw K mg) : mg "int" = none := by
  obtain ⟨h, X, G⟩ := L.at_
  exact He.free_ok X G (L.c.fact 46 rfl)
theorem Lw.f_isinstance (L : Lw K mg) : mg "isinstance" = none := by
  obtain ⟨h, X, G⟩ := L.at_
  exact He.free_ok X G (L.c.fact 47 rfl)
theorem Lw.f_len (L : Lw K mg) : mg "len" = none := by
  obtain ⟨h, X, G⟩ := L.at_
  exact He.free_ok X G (L.c.fact 48 rfl)
theorem Lw.f_min (L : Lw K mg) : mg "min" = none := by
  obtain ⟨h, X, G⟩ := L.at_
  exact He.free_ok X G (L.c.fact 49 rfl)
theorem Lw.f_range (L : Lw K mg) : mg "range" = none := by
  obtain ⟨h, X, G⟩ := L.at_
  exact He.free_ok X G (L.c.fact 50 rfl)
theorem Lw.f_sum (L : Lw K mg) : mg "sum" = none := by
  obtain ⟨h, X, G⟩ := L.at_
  exact He.free_ok X G (L.c.fact 51 rfl)
theorem Lw.f_tuple (L : Lw K mg) : mg "tuple" = none := by
  obtain ⟨h, X, G⟩ := L.at_
  exact He.free_ok X G (L.c.fact 52 rfl)
theorem Lw.cl_Ratio (L : Lw K mg) : Cls K (He.ga K "Ratio") := He.cls_ok (L.c.fact 53 rfl)
theorem Lw.in_Ratio (L : Lw K mg) : InsK K (He.ga K "Ratio") := insK_ok (L.c.fact 54 rfl)
theorem Lw.mk_Ratio (L : Lw K mg) : Mk K (He.ga K "Ratio") (He.ma K (He.ga K "Ratio") "__init__") := He.mkr_ok (L.c.fact 55 rfl)
theorem Lw.na_Ratio_bottom (L : Lw K mg) : NoAttr K (He.ga K "Ratio") "bottom" := He.noat_ok (L.c.fact 57 rfl)
theorem Lw.na_Ratio_top (L : Lw K mg) : NoAttr K (He.ga K "Ratio") "top" := He.noat_ok (L.c.fact 58 rfl)
theorem Lw.me_Ratio_sign (L : Lw K mg) : Meth K (He.ga K "Ratio") "sign" (He.ma K (He.ga K "Ratio") "sign") := He.meth_ok (L.c.fact 59 rfl)
theorem Lw.ox_BadSize (L : Lw K mg) : OexC K (He.ga K "BadSize") ∧ PySem.W.findIn K (.ref (He.ga K "BadSize")) "__init__" = some (some (.ref (He.ma K (He.ga K "BadSize") "__init__"))) ∧ PySem.W.typeIn K (.ref (He.ma K (He.ga K "BadSize") "__init__")) = some (.type "function") := oex_ok (L.c.fact 60 rfl)
theorem Lw.na_BadSize_size (L : Lw K mg) : NoAttr K (He.ga K "BadSize") "size" := He.noat_ok (L.c.fact 61 rfl)
theorem Lw.ox_Negative (L : Lw K mg) : OexC K (He.ga K "Negative") ∧ PySem.W.findIn K (.ref (He.ga K "Negative")) "__init__" = some (some (.ref (He.ma K (He.ga K "Negative") "__init__"))) ∧ PySem.W.typeIn K (.ref (He.ma K (He.ga K "Negative") "__init__")) = some (.type "function") := oex_ok (L.c.fact 62 rfl)
theorem Lw.na_Negative_ratio (L : Lw K mg) : NoAttr K (He.ga K "Negative") "ratio" := He.noat_ok (L.c.fact 63 rfl)
theorem Lw.ox_OutOfBounds (L : Lw K mg) : OexC K (He.ga K "OutOfBounds") ∧ PySem.W.findIn K (.ref (He.ga K "OutOfBounds")) "__init__" = some (some (.ref (He.ma K (He.ga K "OutOfBounds") "__init__"))) ∧ PySem.W.typeIn K (.ref (He.ma K (He.ga K "OutOfBounds") "__init__")) = some (.type "function") := oex_ok (L.c.fact 64 rfl)
theorem Lw.na_OutOfBounds_value (L : Lw K mg) : NoAttr K (He.ga K "OutOfBounds") "value" := He.noat_ok (L.c.fact 65 rfl)
theorem Lw.ox_TooHeavy (L : Lw K mg) : OexC K (He.ga K "TooHeavy") ∧ PySem.W.findIn K (.ref (He.ga K "TooHeavy")) "__init__" = some (some (.ref (He.ma K (He.ga K "TooHeavy") "__init__"))) ∧ PySem.W.typeIn K (.ref (He.ma K (He.ga K "TooHeavy") "__init__")) = some (.type "function") := oex_ok (L.c.fact 66 rfl)
theorem Lw.na_TooHeavy_work (L : Lw K mg) : NoAttr K (He.ga K "TooHeavy") "work" := He.noat_ok (L.c.fact 67 rfl)
theorem Lw.e0_ZeroBottom (L : Lw K mg) : PySem.W.excIn K (He.ga K "ZeroBottom") He.veBase "ValueError.__new__" = true ∧ PySem.W.keepIn K (.ref (He.ga K "ZeroBottom")) = true ∧ PySem.W.subIn K (.ref (He.ga K "ZeroBottom")) (.type "BaseException") = some true ∧ PySem.W.typeIn K (.ref (He.ga K "ZeroBottom")) = some (.type "type") := He.exc_ok (L.c.fact 68 rfl)
theorem Lw.xi_ZeroBottom (L : Lw K mg) : PySem.W.excIn K (He.ga K "ZeroBottom") He.veBase "ValueError.__new__" = true := (L.e0_ZeroBottom).1
theorem Lw.kp_ZeroBottom (L : Lw K mg) : PySem.W.keepIn K (.ref (He.ga K "ZeroBottom")) = true := (L.e0_ZeroBottom).2.1
theorem Lw.xb_ZeroBottom (L : Lw K mg) : PySem.W.subIn K (.ref (He.ga K "ZeroBottom")) (.type "BaseException") = some true := (L.e0_ZeroBottom).2.2.1
theorem Lw.xt_ZeroBottom (L : Lw K mg) : PySem.W.typeIn K (.ref (He.ga K "ZeroBottom")) = some (.type "type") := (L.e0_ZeroBottom).2.2.2
theorem Lw.xm_BadSize_BadSize (L : Lw K mg) : PySem.W.exmOne K (.ref (He.ga K "BadSize")) (.ref (He.ga K "BadSize")) = some true := He.exm_ok (L.c.fact 69 rfl)
theorem Lw.xm_Negative_BadSize (L : Lw K mg) : PySem.W.exmOne K (.ref (He.ga K "Negative")) (.ref (He.ga K "BadSize")) = some false := He.exm_ok (L.c.fact 73 rfl)
theorem Lw.xm_Negative_Negative (L : Lw K mg) : PySem.W.exmOne K (.ref (He.ga K "Negative")) (.ref (He.ga K "Negative")) = some true := He.exm_ok (L.c.fact 74 rfl)
theorem Lw.xm_OutOfBounds_BadSize (L : Lw K mg) : PySem.W.exmOne K (.ref (He.ga K "OutOfBounds")) (.ref (He.ga K "BadSize")) = some false := He.exm_ok (L.c.fact 77 rfl)
theorem Lw.xm_OutOfBounds_Negative (L : Lw K mg) : PySem.W.exmOne K (.ref (He.ga K "OutOfBounds")) (.ref (He.ga K "Negative")) = some false := He.exm_ok (L.c.fact 78 rfl)
theorem Lw.xm_OutOfBounds_OutOfBounds (L : Lw K mg) : PySem.W.exmOne K (.ref (He.ga K "OutOfBounds")) (.ref (He.ga K "OutOfBounds")) = some true := He.exm_ok (L.c.fact 79 rfl)
theorem Lw.xm_TooHeavy_BadSize (L : Lw K mg) : PySem.W.exmOne K (.ref (He.ga K "TooHeavy")) (.ref (He.ga K "BadSize")) = some false := He.exm_ok (L.c.fact 81 rfl)
theorem Lw.xm_TooHeavy_Negative (L : Lw K mg) : PySem.W.exmOne K (.ref (He.ga K "TooHeavy")) (.ref (He.ga K "Negative")) = some false := He.exm_ok (L.c.fact 82 rfl)
theorem Lw.xm_TooHeavy_OutOfBounds (L : Lw K mg) : PySem.W.exmOne K (.ref (He.ga K "TooHeavy")) (.ref (He.ga K "OutOfBounds")) = some false := He.exm_ok (L.c.fact 83 rfl)
theorem Lw.xm_TooHeavy_TooHeavy (L : Lw K mg) : PySem.W.exmOne K (.ref (He.ga K "TooHeavy")) (.ref (He.ga K "TooHeavy")) = some true := He.exm_ok (L.c.fact 84 rfl)
theorem Lw.ec_BadSize (L : Lw K mg) : ExcC K (He.ga K "BadSize") := excC_ok (L.c.fact 89 rfl)
theorem Lw.xf_BadSize (L : Lw K mg) : XfC K (He.ga K "BadSize") := (L.ec_BadSize).xf
theorem Lw.ec_Negative (L : Lw K mg) : ExcC K (He.ga K "Negative") := excC_ok (L.c.fact 90 rfl)
theorem Lw.xf_Negative (L : Lw K mg) : XfC K (He.ga K "Negative") := (L.ec_Negative).xf
theorem Lw.ec_OutOfBounds (L : Lw K mg) : ExcC K (He.ga K "OutOfBounds") := excC_ok (L.c.fact 91 rfl)
theorem Lw.xf_OutOfBounds (L : Lw K mg) : XfC K (He.ga K "OutOfBounds") := (L.ec_OutOfBounds).xf
theorem Lw.ec_TooHeavy (L : Lw K mg) : ExcC K (He.ga K "TooHeavy") := excC_ok (L.c.fact 92 rfl)
theorem Lw.xf_TooHeavy (L : Lw K mg) : XfC K (He.ga K "TooHeavy") := (L.ec_TooHeavy).xf
theorem Lw.kt_Ratio_Ratio (L : Lw K mg) : PySem.W.kitOne K (.ref (He.ga K "Ratio")) (.ref (He.ga K "Ratio")) = some true := of_decide_eq_true (L.c.fact 94 rfl)
theorem Lw.kt_OutOfBounds_NoughtError (L : Lw K mg) : PySem.W.kitOne K (.ref (He.ga K "OutOfBounds")) (.ref (He.ga K "NoughtError")) = some true := of_decide_eq_true (L.c.fact 95 rfl)
theorem Lw.kt_OutOfBounds_Negative (L : Lw K mg) : PySem.W.kitOne K (.ref (He.ga K "OutOfBounds")) (.ref (He.ga K "Negative")) = some false := of_decide_eq_true (L.c.fact 98 rfl)
theorem Lw.kt_OutOfBounds_TooHeavy (L : Lw K mg) : PySem.W.kitOne K (.ref (He.ga K "OutOfBounds")) (.ref (He.ga K "TooHeavy")) = some false := of_decide_eq_true (L.c.fact 99 rfl)
theorem Lw.kt_BadSize_NoughtError (L : Lw K mg) : PySem.W.kitOne K (.ref (He.ga K "BadSize")) (.ref (He.ga K "NoughtError")) = some true := of_decide_eq_true (L.c.fact 100 rfl)
theorem Lw.kt_BadSize_OutOfBounds (L : Lw K mg) : PySem.W.kitOne K (.ref (He.ga K "BadSize")) (.ref (He.ga K "OutOfBounds")) = some false := of_decide_eq_true (L.c.fact 101 rfl)
theorem Lw.kt_BadSize_Negative (L : Lw K mg) : PySem.W.kitOne K (.ref (He.ga K "BadSize")) (.ref (He.ga K "Negative")) = some false := of_decide_eq_true (L.c.fact 103 rfl)
theorem Lw.kt_BadSize_TooHeavy (L : Lw K mg) : PySem.W.kitOne K (.ref (He.ga K "BadSize")) (.ref (He.ga K "TooHeavy")) = some false := of_decide_eq_true (L.c.fact 104 rfl)
theorem Lw.kt_Negative_NoughtError (L : Lw K mg) : PySem.W.kitOne K (.ref (He.ga K "Negative")) (.ref (He.ga K "NoughtError")) = some true := of_decide_eq_true (L.c.fact 105 rfl)
theorem Lw.kt_Negative_OutOfBounds (L : Lw K mg) : PySem.W.kitOne K (.ref (He.ga K "Negative")) (.ref (He.ga K "OutOfBounds")) = some false := of_decide_eq_true (L.c.fact 106 rfl)
theorem Lw.kt_Negative_TooHeavy (L : Lw K mg) : PySem.W.kitOne K (.ref (He.ga K "Negative")) (.ref (He.ga K "TooHeavy")) = some false := of_decide_eq_true (L.c.fact 109 rfl)
theorem Lw.kt_TooHeavy_NoughtError (L : Lw K mg) : PySem.W.kitOne K (.ref (He.ga K "TooHeavy")) (.ref (He.ga K "NoughtError")) = some true := of_decide_eq_true (L.c.fact 110 rfl)
theorem Lw.d_RatioD_initD (L : Lw K mg) : ∃ fd, FunD K "__init__" "Ratio.__init__" (defArgs s_RatioD_initD) (defBody s_RatioD_initD) (defScope s_RatioD_initD) (df_RatioD_initD.dvs K) (df_RatioD_initD.kws K) (He.fAd K ("Ratio", some "__init__")) fd := L.c.def_ 0 (d := df_RatioD_initD) rfl
theorem Lw.d_law_mod (L : Lw K mg) : ∃ fd, FunD K "_law_mod" "_law_mod" (defArgs s_law_mod) (defBody s_law_mod) (defScope s_law_mod) (df_law_mod.dvs K) (df_law_mod.kws K) (He.fAd K ("_law_mod", none)) fd := L.c.def_ 1 (d := df_law_mod) rfl
theorem Lw.d_law_common (L : Lw K mg) : ∃ fd, FunD K "_law_common" "_law_common" (defArgs s_law_common) (defBody s_law_common) (defScope s_law_common) (df_law_common.dvs K) (df_law_common.kws K) (He.fAd K ("_law_common", none)) fd := L.c.def_ 2 (d := df_law_common) rfl
theorem Lw.d_law_power (L : Lw K mg) : ∃ fd, FunD K "_law_power" "_law_power" (defArgs s_law_power) (defBody s_law_power) (defScope s_law_power) (df_law_power.dvs K) (df_law_power.kws K) (He.fAd K ("_law_power", none)) fd := L.c.def_ 3 (d := df_law_power) rfl
theorem Lw.d_law_whole (L : Lw K mg) : ∃ fd, FunD K "_law_whole" "_law_whole" (defArgs s_law_whole) (defBody s_law_whole) (defScope s_law_whole) (df_law_whole.dvs K) (df_law_whole.kws K) (He.fAd K ("_law_whole", none)) fd := L.c.def_ 4 (d := df_law_whole) rfl
theorem Lw.d_law_below (L : Lw K mg) : ∃ fd, FunD K "_law_below" "_law_below" (defArgs s_law_below) (defBody s_law_below) (defScope s_law_below) (df_law_below.dvs K) (df_law_below.kws K) (He.fAd K ("_law_below", none)) fd := L.c.def_ 5 (d := df_law_below) rfl
theorem Lw.d_law_cell (L : Lw K mg) : ∃ fd, FunD K "_law_cell" "_law_cell" (defArgs s_law_cell) (defBody s_law_cell) (defScope s_law_cell) (df_law_cell.dvs K) (df_law_cell.kws K) (He.fAd K ("_law_cell", none)) fd := L.c.def_ 6 (d := df_law_cell) rfl
theorem Lw.d_law_is (L : Lw K mg) : ∃ fd, FunD K "_law_is" "_law_is" (defArgs s_law_is) (defBody s_law_is) (defScope s_law_is) (df_law_is.dvs K) (df_law_is.kws K) (He.fAd K ("_law_is", none)) fd := L.c.def_ 7 (d := df_law_is) rfl
theorem Lw.d_law_root (L : Lw K mg) : ∃ fd, FunD K "_law_root" "_law_root" (defArgs s_law_root) (defBody s_law_root) (defScope s_law_root) (df_law_root.dvs K) (df_law_root.kws K) (He.fAd K ("_law_root", none)) fd := L.c.def_ 8 (d := df_law_root) rfl
theorem Lw.d_law_exact (L : Lw K mg) : ∃ fd, FunD K "_law_exact" "_law_exact" (defArgs s_law_exact) (defBody s_law_exact) (defScope s_law_exact) (df_law_exact.dvs K) (df_law_exact.kws K) (He.fAd K ("_law_exact", none)) fd := L.c.def_ 9 (d := df_law_exact) rfl
theorem Lw.d_NegativeD_initD (L : Lw K mg) : ∃ fd, FunD K "__init__" "Negative.__init__" (defArgs s_NegativeD_initD) (defBody s_NegativeD_initD) (defScope s_NegativeD_initD) (df_NegativeD_initD.dvs K) (df_NegativeD_initD.kws K) (He.fAd K ("Negative", some "__init__")) fd := L.c.def_ 10 (d := df_NegativeD_initD) rfl
theorem Lw.d_Ratio_sign (L : Lw K mg) : ∃ fd, FunD K "sign" "Ratio.sign" (defArgs s_Ratio_sign) (defBody s_Ratio_sign) (defScope s_Ratio_sign) (df_Ratio_sign.dvs K) (df_Ratio_sign.kws K) (He.fAd K ("Ratio", some "sign")) fd := L.c.def_ 11 (d := df_Ratio_sign) rfl
theorem Lw.d_OutOfBoundsD_initD (L : Lw K mg) : ∃ fd, FunD K "__init__" "OutOfBounds.__init__" (defArgs s_OutOfBoundsD_initD) (defBody s_OutOfBoundsD_initD) (defScope s_OutOfBoundsD_initD) (df_OutOfBoundsD_initD.dvs K) (df_OutOfBoundsD_initD.kws K) (He.fAd K ("OutOfBounds", some "__init__")) fd := L.c.def_ 12 (d := df_OutOfBoundsD_initD) rfl
theorem Lw.d_check_number (L : Lw K mg) : ∃ fd, FunD K "check_number" "check_number" (defArgs s_check_number) (defBody s_check_number) (defScope s_check_number) (df_check_number.dvs K) (df_check_number.kws K) (He.fAd K ("check_number", none)) fd := L.c.def_ 13 (d := df_check_number) rfl
theorem Lw.d_whole_power (L : Lw K mg) : ∃ fd, FunD K "whole_power" "whole_power" (defArgs s_whole_power) (defBody s_whole_power) (defScope s_whole_power) (df_whole_power.dvs K) (df_whole_power.kws K) (He.fAd K ("whole_power", none)) fd := L.c.def_ 14 (d := df_whole_power) rfl
theorem Lw.d_whole_root (L : Lw K mg) : ∃ fd, FunD K "whole_root" "whole_root" (defArgs s_whole_root) (defBody s_whole_root) (defScope s_whole_root) (df_whole_root.dvs K) (df_whole_root.kws K) (He.fAd K ("whole_root", none)) fd := L.c.def_ 15 (d := df_whole_root) rfl
theorem Lw.d_exact_root (L : Lw K mg) : ∃ fd, FunD K "exact_root" "exact_root" (defArgs s_exact_root) (defBody s_exact_root) (defScope s_exact_root) (df_exact_root.dvs K) (df_exact_root.kws K) (He.fAd K ("exact_root", none)) fd := L.c.def_ 16 (d := df_exact_root) rfl
theorem Lw.d_law_exact_error (L : Lw K mg) : ∃ fd, FunD K "_law_exact_error" "_law_exact_error" (defArgs s_law_exact_error) (defBody s_law_exact_error) (defScope s_law_exact_error) (df_law_exact_error.dvs K) (df_law_exact_error.kws K) (He.fAd K ("_law_exact_error", none)) fd := L.c.def_ 17 (d := df_law_exact_error) rfl
theorem Lw.d_law_exponent (L : Lw K mg) : ∃ fd, FunD K "_law_exponent" "_law_exponent" (defArgs s_law_exponent) (defBody s_law_exponent) (defScope s_law_exponent) (df_law_exponent.dvs K) (df_law_exponent.kws K) (He.fAd K ("_law_exponent", none)) fd := L.c.def_ 18 (d := df_law_exponent) rfl
theorem Lw.d_law_fraction (L : Lw K mg) : ∃ fd, FunD K "_law_fraction" "_law_fraction" (defArgs s_law_fraction) (defBody s_law_fraction) (defScope s_law_fraction) (df_law_fraction.dvs K) (df_law_fraction.kws K) (He.fAd K ("_law_fraction", none)) fd := L.c.def_ 19 (d := df_law_fraction) rfl
theorem Lw.d_law_grain (L : Lw K mg) : ∃ fd, FunD K "_law_grain" "_law_grain" (defArgs s_law_grain) (defBody s_law_grain) (defScope s_law_grain) (df_law_grain.dvs K) (df_law_grain.kws K) (He.fAd K ("_law_grain", none)) fd := L.c.def_ 20 (d := df_law_grain) rfl
theorem Lw.d_law_due (L : Lw K mg) : ∃ fd, FunD K "_law_due" "_law_due" (defArgs s_law_due) (defBody s_law_due) (defScope s_law_due) (df_law_due.dvs K) (df_law_due.kws K) (He.fAd K ("_law_due", none)) fd := L.c.def_ 21 (d := df_law_due) rfl
theorem Lw.d_law_handed (L : Lw K mg) : ∃ fd, FunD K "_law_handed" "_law_handed" (defArgs s_law_handed) (defBody s_law_handed) (defScope s_law_handed) (df_law_handed.dvs K) (df_law_handed.kws K) (He.fAd K ("_law_handed", none)) fd := L.c.def_ 22 (d := df_law_handed) rfl
theorem Lw.d_TooHeavyD_initD (L : Lw K mg) : ∃ fd, FunD K "__init__" "TooHeavy.__init__" (defArgs s_TooHeavyD_initD) (defBody s_TooHeavyD_initD) (defScope s_TooHeavyD_initD) (df_TooHeavyD_initD.dvs K) (df_TooHeavyD_initD.kws K) (He.fAd K ("TooHeavy", some "__init__")) fd := L.c.def_ 23 (d := df_TooHeavyD_initD) rfl
theorem Lw.d_BadSizeD_initD (L : Lw K mg) : ∃ fd, FunD K "__init__" "BadSize.__init__" (defArgs s_BadSizeD_initD) (defBody s_BadSizeD_initD) (defScope s_BadSizeD_initD) (df_BadSizeD_initD.dvs K) (df_BadSizeD_initD.kws K) (He.fAd K ("BadSize", some "__init__")) fd := L.c.def_ 24 (d := df_BadSizeD_initD) rfl
theorem Lw.d_check_size (L : Lw K mg) : ∃ fd, FunD K "check_size" "check_size" (defArgs s_check_size) (defBody s_check_size) (defScope s_check_size) (df_check_size.dvs K) (df_check_size.kws K) (He.fAd K ("check_size", none)) fd := L.c.def_ 25 (d := df_check_size) rfl
theorem Lw.d_check_factors (L : Lw K mg) : ∃ fd, FunD K "check_factors" "check_factors" (defArgs s_check_factors) (defBody s_check_factors) (defScope s_check_factors) (df_check_factors.dvs K) (df_check_factors.kws K) (He.fAd K ("check_factors", none)) fd := L.c.def_ 26 (d := df_check_factors) rfl
theorem Lw.d_compare_products (L : Lw K mg) : ∃ fd, FunD K "compare_products" "compare_products" (defArgs s_compare_products) (defBody s_compare_products) (defScope s_compare_products) (df_compare_products.dvs K) (df_compare_products.kws K) (He.fAd K ("compare_products", none)) fd := L.c.def_ 27 (d := df_compare_products) rfl
theorem Lw.d_law_product_error (L : Lw K mg) : ∃ fd, FunD K "_law_product_error" "_law_product_error" (defArgs s_law_product_error) (defBody s_law_product_error) (defScope s_law_product_error) (df_law_product_error.dvs K) (df_law_product_error.kws K) (He.fAd K ("_law_product_error", none)) fd := L.c.def_ 28 (d := df_law_product_error) rfl
theorem Lw.d_law_compared (L : Lw K mg) : ∃ fd, FunD K "_law_compared" "_law_compared" (defArgs s_law_compared) (defBody s_law_compared) (defScope s_law_compared) (df_law_compared.dvs K) (df_law_compared.kws K) (He.fAd K ("_law_compared", none)) fd := L.c.def_ 29 (d := df_law_compared) rfl
theorem Lw.d_law_stays (L : Lw K mg) : ∃ fd, FunD K "_law_stays" "_law_stays" (defArgs s_law_stays) (defBody s_law_stays) (defScope s_law_stays) (df_law_stays.dvs K) (df_law_stays.kws K) (He.fAd K ("_law_stays", none)) fd := L.c.def_ 30 (d := df_law_stays) rfl
theorem Lw.d_law_products (L : Lw K mg) : ∃ fd, FunD K "_law_products" "_law_products" (defArgs s_law_products) (defBody s_law_products) (defScope s_law_products) (df_law_products.dvs K) (df_law_products.kws K) (He.fAd K ("_law_products", none)) fd := L.c.def_ 31 (d := df_law_products) rfl
theorem Lw.d_law_heavy (L : Lw K mg) : ∃ fd, FunD K "_law_heavy" "_law_heavy" (defArgs s_law_heavy) (defBody s_law_heavy) (defScope s_law_heavy) (df_law_heavy.dvs K) (df_law_heavy.kws K) (He.fAd K ("_law_heavy", none)) fd := L.c.def_ 32 (d := df_law_heavy) rfl
theorem Lw.d_law_many (L : Lw K mg) : ∃ fd, FunD K "_law_many" "_law_many" (defArgs s_law_many) (defBody s_law_many) (defScope s_law_many) (df_law_many.dvs K) (df_law_many.kws K) (He.fAd K ("_law_many", none)) fd := L.c.def_ 33 (d := df_law_many) rfl
theorem Lw.d_root_below (L : Lw K mg) : ∃ fd, FunD K "root_below" "root_below" (defArgs s_root_below) (defBody s_root_below) (defScope s_root_below) (df_root_below.dvs K) (df_root_below.kws K) (He.fAd K ("root_below", none)) fd := L.c.def_ 34 (d := df_root_below) rfl
theorem Lw.d_law_negative (L : Lw K mg) : ∃ fd, FunD K "_law_negative" "_law_negative" (defArgs s_law_negative) (defBody s_law_negative) (defScope s_law_negative) (df_law_negative.dvs K) (df_law_negative.kws K) (He.fAd K ("_law_negative", none)) fd := L.c.def_ 35 (d := df_law_negative) rfl
theorem Lw.d_law_odd (L : Lw K mg) : ∃ fd, FunD K "_law_odd" "_law_odd" (defArgs s_law_odd) (defBody s_law_odd) (defScope s_law_odd) (df_law_odd.dvs K) (df_law_odd.kws K) (He.fAd K ("_law_odd", none)) fd := L.c.def_ 36 (d := df_law_odd) rfl
theorem Lw.d_law_put (L : Lw K mg) : ∃ fd, FunD K "_law_put" "_law_put" (defArgs s_law_put) (defBody s_law_put) (defScope s_law_put) (df_law_put.dvs K) (df_law_put.kws K) (He.fAd K ("_law_put", none)) fd := L.c.def_ 37 (d := df_law_put) rfl
theorem Lw.d_law_root_error (L : Lw K mg) : ∃ fd, FunD K "_law_root_error" "_law_root_error" (defArgs s_law_root_error) (defBody s_law_root_error) (defScope s_law_root_error) (df_law_root_error.dvs K) (df_law_root_error.kws K) (He.fAd K ("_law_root_error", none)) fd := L.c.def_ 38 (d := df_law_root_error) rfl
theorem Lw.d_law_rows (L : Lw K mg) : ∃ fd, FunD K "_law_rows" "_law_rows" (defArgs s_law_rows) (defBody s_law_rows) (defScope s_law_rows) (df_law_rows.dvs K) (df_law_rows.kws K) (He.fAd K ("_law_rows", none)) fd := L.c.def_ 39 (d := df_law_rows) rfl
theorem Lw.d_law_turned (L : Lw K mg) : ∃ fd, FunD K "_law_turned" "_law_turned" (defArgs s_law_turned) (defBody s_law_turned) (defScope s_law_turned) (df_law_turned.dvs K) (df_law_turned.kws K) (He.fAd K ("_law_turned", none)) fd := L.c.def_ 40 (d := df_law_turned) rfl
theorem Lw.d_law (L : Lw K mg) : ∃ fd, FunD K "law" "law" (defArgs s_law) (defBody s_law) (defScope s_law) (df_law.dvs K) (df_law.kws K) (He.fAd K ("law", none)) fd := L.c.def_ 41 (d := df_law) rfl
end
end T
set_option maxHeartbeats 0
namespace T
open PySem PySem.W PySem.Calls PySem.Spec PyProof.Rows L2 Z
abbrev R : PySem.W.OpenRow := PySem.W.OpenLaw.row PySem.Challenge.rw_belownought_k02_roots_of_fractions
abbrev hk : PySem.W.Hook := hookZ3 6 fb fn
def ob (st : PySem.W.SharedT) : SeenZ := seenG3 6 fb fn (HandSHeadRun.getT st)
theorem ob_eq (st : PySem.W.SharedT) : ob st = hk.obs st.abs := seenG3_eq (HandSHeadRun.getT_eq st)
def loose : List Str := (["_wall", "__name__", "NoughtError", "ZeroBottom", "BadText", "OutOfBounds", "BadSize", "Negative", "TooHeavy", "check_number", "check_size", "Ratio", "whole_power", "read_whole", "read_fraction", "whole_root", "root_below", "exact_root", "check_factors", "compare_products", "_law_cell", "_law_mod", "_law_common", "_law_power", "_law_root", "_law_exponent", "_law_fraction", "_law_grain", "_law_whole", "_law_is"] : List Str) ++ (["_law_below", "_law_exact", "_law_root_error", "_law_exact_error", "_law_negative", "_law_rows", "_law_turned", "_law_handed", "_law_stays", "_law_compared", "_law_products", "_law_odd", "_law_due", "_law_product_error", "_law_heavy", "_law_many", "_law_put"] : List Str)
theorem runA (w : World) : (HandSHeadRun.wholeF (fun p => HandSHeadRun.stepQ (HandSHeadRun.denQ HandSHeadRun.tabQ) p w) HandSHeadRun.fenceQ 12000 R.prog).map (fun x => HandSHeadRun.looksF R.prog x.1.heap x.2.abs) = some true := by
  kernel_rfl
theorem runB (w : World) : (HandSHeadRun.wholeF (fun p => HandSHeadRun.stepQ (HandSHeadRun.denQ HandSHeadRun.tabQ) p w) HandSHeadRun.fenceQ 12000 R.prog).map (fun x => HandSHeadRun.seenQ (PySem.W.view R.prog [0, 51]) loose (importedModules R.prog.main.body) (fun s => PySem.W.xlAt (PySem.W.view R.prog [0, 51]) [] s && PySem.W.recOk R.toRowW.records s) x.2.abs) = some (PySem.W.openGood (PySem.W.view R.prog [0, 51]) loose) := by
  kernel_rfl
def fb0 : List Chk := [cGlo "BadSize", cGlo "Negative", cGlo "NoughtError", cGlo "OutOfBounds", cGlo "Ratio", cGlo "TooHeavy", cGlo "ZeroBottom", cGlo "_law_below", cGlo "_law_cell", cGlo "_law_common", cGlo "_law_compared", cGlo "_law_due", cGlo "_law_exact", cGlo "_law_exact_error", cGlo "_law_exponent", cGlo "_law_fraction", cGlo "_law_grain", cGlo "_law_handed", cGlo "_law_heavy", cGlo "_law_is", cGlo "_law_many", cGlo "_law_mod", cGlo "_law_negative", cGlo "_law_odd", cGlo "_law_power", cGlo "_law_product_error", cGlo "_law_products", cGlo "_law_put", cGlo "_law_root", cGlo "_law_root_error", cGlo "_law_rows", cGlo "_law_stays", cGlo "_law_turned", cGlo "_law_whole", cGlo "check_factors", cGlo "check_number", cGlo "check_size", cGlo "compare_products", cGlo "exact_root", cGlo "law", cGlo "root_below", cGlo "whole_power", cGlo "whole_root", cFree "abs", cFree "bool", cVal "gcd" "math.gcd", cFree "int", cFree "isinstance", cFree "len", cFree "min", cFree "range", cFree "sum", cFree "tuple", cCls "Ratio", cIns "Ratio", cMk "Ratio", cSelf "Ratio"]
def fn0 : List He5.DefA := [df_RatioD_initD, df_law_mod, df_law_common, df_law_power, df_law_whole, df_law_below, df_law_cell, df_law_is, df_law_root, df_law_exact, df_NegativeD_initD, df_Ratio_sign, df_OutOfBoundsD_initD, df_check_number, df_whole_power, df_whole_root, df_exact_root, df_law_exact_error, df_law_exponent, df_law_fraction, df_law_grain]
theorem runC0 (w : World) : (HandSHeadRun.wholeF (fun p => HandSHeadRun.stepQ (HandSHeadRun.denQ HandSHeadRun.tabQ) p w) HandSHeadRun.fenceQ 12000 R.prog).map (fun x => seenG3 6 fb0 fn0 (HandSHeadRun.getT x.2)) = some (dueK2 fn0) := by
  kernel_rfl
def fb1 : List Chk := [cNo "Ratio" "bottom", cNo "Ratio" "top", cMeth "Ratio" "sign", cOex "BadSize", cNo "BadSize" "size", cOex "Negative", cNo "Negative" "ratio", cOex "OutOfBounds", cNo "OutOfBounds" "value", cOex "TooHeavy", cNo "TooHeavy" "work", cExc0 "ZeroBottom", cExm "BadSize" "BadSize" true, cExm "BadSize" "Negative" false, cExm "BadSize" "OutOfBounds" false, cExm "BadSize" "TooHeavy" false, cExm "Negative" "BadSize" false, cExm "Negative" "Negative" true, cExm "Negative" "OutOfBounds" false, cExm "Negative" "TooHeavy" false, cExm "OutOfBounds" "BadSize" false, cExm "OutOfBounds" "Negative" false, cExm "OutOfBounds" "OutOfBounds" true, cExm "OutOfBounds" "TooHeavy" false, cExm "TooHeavy" "BadSize" false, cExm "TooHeavy" "Negative" false, cExm "TooHeavy" "OutOfBounds" false, cExm "TooHeavy" "TooHeavy" true, cExm "ZeroBottom" "BadSize" false, cExm "ZeroBottom" "Negative" false, cExm "ZeroBottom" "OutOfBounds" false, cExm "ZeroBottom" "TooHeavy" false, cExcC "BadSize", cExcC "Negative", cExcC "OutOfBounds", cExcC "TooHeavy", cExcC "ZeroBottom", cKit "Ratio" "Ratio" true, cKit "OutOfBounds" "NoughtError" true, cKit "OutOfBounds" "OutOfBounds" true, cKit "OutOfBounds" "BadSize" false, cKit "OutOfBounds" "Negative" false, cKit "OutOfBounds" "TooHeavy" false, cKit "BadSize" "NoughtError" true, cKit "BadSize" "OutOfBounds" false, cKit "BadSize" "BadSize" true, cKit "BadSize" "Negative" false, cKit "BadSize" "TooHeavy" false, cKit "Negative" "NoughtError" true, cKit "Negative" "OutOfBounds" false, cKit "Negative" "BadSize" false, cKit "Negative" "Negative" true, cKit "Negative" "TooHeavy" false, cKit "TooHeavy" "NoughtError" true, cKit "TooHeavy" "OutOfBounds" false, cKit "TooHeavy" "BadSize" false, cKit "TooHeavy" "Negative" false, cKit "TooHeavy" "TooHeavy" true]
def fn1 : List He5.DefA := [df_law_due, df_law_handed, df_TooHeavyD_initD, df_BadSizeD_initD, df_check_size, df_check_factors, df_compare_products, df_law_product_error, df_law_compared, df_law_stays, df_law_products, df_law_heavy, df_law_many, df_root_below, df_law_negative, df_law_odd, df_law_put, df_law_root_error, df_law_rows, df_law_turned, df_law]
theorem runC1 (w : World) : (HandSHeadRun.wholeF (fun p => HandSHeadRun.stepQ (HandSHeadRun.denQ HandSHeadRun.tabQ) p w) HandSHeadRun.fenceQ 12000 R.prog).map (fun x => seenG3 6 fb1 fn1 (HandSHeadRun.getT x.2)) = some (dueK2 fn1) := by
  kernel_rfl
theorem runC (w : World) : (HandSHeadRun.wholeF (fun p => HandSHeadRun.stepQ (HandSHeadRun.denQ HandSHeadRun.tabQ) p w) HandSHeadRun.fenceQ 12000 R.prog).map (fun x => ob x.2) = some (dueK2 fn) := by
  have e1 : fb = fb0 ++ (fb1) := rfl
  have e2 : fn = fn0 ++ (fn1) := rfl
  unfold ob
  rw [e1, e2]
  exact (seen_both3 (runC0 w) (runC1 w))
theorem run (w : World) : HandSHeadRun.RunEqI R (PySem.W.view R.prog [0, 51]) hk ob 12000 loose w := map_three (runA w) (runB w) (runC w)
end T
set_option maxHeartbeats 4000000
namespace T
open PySem PySem.Spec PyProof.Rows L2 Z
local macro_rules | `(tactic| walk_at "up") => `(tactic| first
  | assumption
  | (refine' IsR.mono (by assumption) ?zup; case zup => walk_at "up")
  | (refine' IsE.mono (by assumption) ?zup; case zup => walk_at "up")
  | (refine' Same.at (by assumption) ?zup; case zup => walk_at "up")
  | (refine' SqL.of ?zup; case zup => walk_at "up")
  | (refine' L2.Same.seq (by assumption) ?zup; case zup => walk_at "up"))
local macro_rules | `(tactic| walk_at "z") => `(tactic| first
  | ((with_reducible refine' z_var ?zvh ?_); (case zvh => exact rfl))
  | with_reducible refine z_c ?_
  | with_reducible refine z_cons ?_
  | with_reducible refine z_nil ?_
  | with_reducible refine z_op ?_
  | with_reducible refine z_nx ?_
  | with_reducible refine z_seq ?_
  | with_reducible refine z_asg ?_
  | with_reducible refine z_asgG ?_
  | with_reducible refine z_call ?_
  | with_reducible refine z_sq0 ?_
  | with_reducible refine z_sq1 ?_
  | with_reducible refine z_ifS ?_
  | with_reducible refine z_test ?_
  | with_reducible refine z_tb ?_
  | with_reducible refine z_bl ?_
  | with_reducible refine z_blI ?_
  | with_reducible refine z_ret ?_
  | with_reducible refine z_rt ?_
  | with_reducible refine z_T ?_
  | with_reducible refine z_F ?_
  | with_reducible refine z_add ?_
  | with_reducible refine z_sub ?_
  | with_reducible refine z_neg ?_
  | with_reducible refine z_un ?_
  | with_reducible refine z_eqI ?_
  | with_reducible refine z_neI ?_
  | with_reducible refine z_lt ?_
  | with_reducible refine z_le ?_
  | with_reducible refine z_gt ?_
  | with_reducible refine z_ge ?_
  | with_reducible refine z_not ?_
  | with_reducible refine z_and ?_
  | with_reducible refine z_or ?_
  | with_reducible refine z_andV ?_
  | with_reducible refine z_orV ?_
  | with_reducible refine z_notV ?_
  | with_reducible refine z_if ?_
  | with_reducible refine z_cb ?_
  | with_reducible refine z_int1 ?_
  | with_reducible refine z_intb ?_
  | with_reducible refine z_abs ?_
  | with_reducible refine z_gcd ?_
  | with_reducible refine z_isi_ii ?_
  | with_reducible refine z_isi_ib ?_
  | with_reducible refine z_next ?_
  | with_reducible refine z_drop ?_
  | with_reducible refine z_par ?_
  | with_reducible refine z_par2 ?_
  | with_reducible refine z_tupN ?_
  | with_reducible refine z_lstN ?_
  | ((with_reducible refine' z_nt ?zl1 ?_); (case zl1 => exact Nat.le_of_ble_eq_true rfl); intro p H' hp hs he)
  | ((with_reducible refine' z_gtup ?zl1 ?zl2 ?_); (case zl1 => walk_at "up"); (case zl2 => exact rfl))
  | with_reducible refine z_bk ?_
  | with_reducible refine z_ct ?_
  | with_reducible refine z_break ?_
  | with_reducible refine z_cont ?_
  | with_reducible refine z_retN ?_
  | with_reducible refine z_nn ?_
  | with_reducible refine z_mk ?_
  | with_reducible refine z_gn ?_
  | with_reducible refine z_gcons ?_
  | with_reducible refine z_gnil ?_
  | with_reducible refine z_mt ?_
  | with_reducible refine z_mko ?_
  | with_reducible refine z_for2 ?_
  | with_reducible refine z_ownI ?_
  | ((with_reducible refine' z_lenL ?zl1 ?_); (case zl1 => walk_at "up"))
  | ((with_reducible refine' z_ixT ?zl1 ?zl2 ?_); (case zl1 => walk_at "up"); (case zl2 => exact rfl))
  | ((with_reducible refine' z_mulL ?zl1 ?zl2 ?_); (case zl1 => omega); (case zl2 => omega))
  | ((with_reducible refine' z_mulR ?zl1 ?zl2 ?_); (case zl1 => omega); (case zl2 => omega))
  | ((with_reducible refine' z_divS ?zl1 ?zl2 ?_); (case zl1 => omega); (case zl2 => omega))
  | ((with_reducible refine' z_mulW ?zl1 ?zl2 ?zl3 ?zl4 ?_); (case zl1 => omega); (case zl2 => omega); (case zl3 => omega); (case zl4 => omega))
  | ((with_reducible refine' z_divW ?zl1 ?zl2 ?_); (case zl1 => omega); (case zl2 => omega)))
local macro_rules | `(tactic| walk_at "zz") => `(tactic| repeat (walk_at "z"))
local macro_rules | `(tactic| walk_at "z") => `(tactic| ((with_reducible refine' z_fldt ?zc1 ?zc2 ?zl1 ?zl2 ?_); (case zc1 => exact Lw.cl_Ratio (by assumption)); (case zc2 => exact Lw.na_Ratio_top (by assumption)); (case zl1 => exact rfl); (case zl2 => walk_at "up")))
local macro_rules | `(tactic| walk_at "z") => `(tactic| ((with_reducible refine' z_fldb ?zc1 ?zc2 ?zl1 ?zl2 ?_); (case zc1 => exact Lw.cl_Ratio (by assumption)); (case zc2 => exact Lw.na_Ratio_bottom (by assumption)); (case zl1 => exact rfl); (case zl2 => walk_at "up")))
section
variable {P : Program} {w : World} {K : Frag} {mg : Str → Option Value} {base : Heap}
theorem ok_RatioD_initD (L : Lw K mg) {fd : FuncData} (F : FunD K "__init__" "Ratio.__init__" (defArgs s_RatioD_initD) (defBody s_RatioD_initD) (defScope s_RatioD_initD) (df_RatioD_initD.dvs K) (df_RatioD_initD.kws K) (He.fAd K ("Ratio", some "__init__")) fd) : FnOk P w K mg base (L2N.CX P w) 1 (He.fAd K ("Ratio", some "__init__")) fd (["self", "top", "bottom"] : List Str) (sp3 (fs_rinit K)) := by
  refine FunD.ok F sc_RatioD_initD len3 (fun cdv A outer s H vs Q E hr h => ?_)
  obtain ⟨a, b, c, rfl, h⟩ := h
  refine ⟨_, (pss_cons (ps_if (pt_cmpR op_eq (pv 2) pe_int (nomark _)) (pss_one (L2N.ps_raise rfl (L2N.takes_of rfl rfl rfl rfl) (pmk_x0 PySem.F.excBase_ValueError L.xi_ZeroBottom L.g_ZeroBottom L.kp_ZeroBottom (raises_own L.xb_ZeroBottom L.xt_ZeroBottom)))) pss_nil)
    (pss_cons (ps_set (i := 3) sc_RatioD_initD.nd rfl (by first | exact Or.inl rfl | exact Or.inr rfl) (pe_callBfun cr_gcd rfl L.v_gcd (pa_cons (pv 1) (pa_cons (pv 2) pa_nil))))
    (pss_cons (ps_if (pt_cmpR o_lt (pv 2) pe_int (nomark _)) (pss_one (ps_set (i := 3) sc_RatioD_initD.nd rfl (by first | exact Or.inl rfl | exact Or.inr rfl) (pe_un o_neg (pv 3)))) pss_nil)
    (pss_cons (ps_fld (pv 0) (pe_op o_div (pv 1) (pv 3)) rfl)
    (pss_one (ps_fld (pv 0) (pe_op o_div (pv 2) (pv 3)) rfl)))))), ?_⟩
  obtain ⟨x, dx, H0, n, d, rfl, rfl, rfl, rfl, hx, hdx, ne, hb, k, kz⟩ := h
  walk_at "zz"
  have sm : Same H0 (upd (upd H0 dx (.own x)) x (.ins (He.ga K "Ratio") dx [])) := fun y o hy => by
    rw [upd_ne (ne_of_none hy hx), upd_ne (ne_of_none hy hdx)]
    exact hy
  refine z_d2 (fun c => kz c _ sm) (fun c => ?_)
  have hc := rc_bits (n := n) c hb
  have hc0 := rc_ne (n := n) c
  walk_at "zz"
  refine z_d2 (fun c2 => ?_) (fun c2 => ?_)
  · walk_at "zz"
    have e : rc n d = -((Int.gcd n d : Nat) : Int) := by unfold rc; rw [if_pos c2]
    rw [e] at hc hc0
    refine run_rinit (a := .int (rt n d)) (b := .int (rb n d)) L.cl_Ratio L.na_Ratio_top L.na_Ratio_bottom hx hdx ne rfl (fun H1 Q1 q1 => ?_) (fun H1 Q1 q1 => ?_) (fun H' e1 e2 => k c H' e1 ⟨dx, e2⟩)
    · walk_at "zz"
      refine z_divN hc0 hc (by decide) (by decide) ?_
      unfold rt at q1
      rw [e] at q1
      exact q1
    · walk_at "zz"
      refine z_divN hc0 hc (by decide) (by decide) ?_
      unfold rb at q1
      rw [e] at q1
      exact q1
  · walk_at "zz"
    have e : rc n d = ((Int.gcd n d : Nat) : Int) := by unfold rc; rw [if_neg c2]
    rw [e] at hc hc0
    refine run_rinit (a := .int (rt n d)) (b := .int (rb n d)) L.cl_Ratio L.na_Ratio_top L.na_Ratio_bottom hx hdx ne rfl (fun H1 Q1 q1 => ?_) (fun H1 Q1 q1 => ?_) (fun H' e1 e2 => k c H' e1 ⟨dx, e2⟩)
    · walk_at "zz"
      refine z_divN hc0 hc (by decide) (by decide) ?_
      unfold rt at q1
      rw [e] at q1
      exact q1
    · walk_at "zz"
      refine z_divN hc0 hc (by decide) (by decide) ?_
      unfold rb at q1
      rw [e] at q1
      exact q1
theorem c_RatioD_initD (L : Lw K mg) : Mak P w K mg base 1 "Ratio" (He.ga K "Ratio") (sp3 (fs_rinit K)) [] := by
  obtain ⟨fd, F⟩ := L.d_RatioD_initD
  obtain ⟨ds, vds, bds⟩ := F.binds1 (ps := ["self", "top", "bottom"]) 3 1 (by intro z; cases z) rfl (fun _ _ _ _ _ _ _ us its hl hi => match us, its, hl, hi with | [_, _, _], [_], _, _ => ⟨_, rfl, rfl⟩)
  exact ⟨⟨_, fd, ["self", "top", "bottom"], ds, L.mk_Ratio, ok_RatioD_initD L F, L.g_Ratio, bds, vds⟩⟩
end
end T
set_option maxHeartbeats 4000000
namespace T
open PySem PySem.Spec PyProof.Rows L2 Z
local macro_rules | `(tactic| walk_at "up") => `(tactic| first
  | assumption
  | (refine' IsR.mono (by assumption) ?zup; case zup => walk_at "up")
  | (refine' IsE.mono (by assumption) ?zup; case zup => walk_at "up")
  | (refine' Same.at (by assumption) ?zup; case zup => walk_at "up")
  | (refine' SqL.of ?zup; case zup => walk_at "up")
  | (refine' L2.Same.seq (by assumption) ?zup; case zup => walk_at "up"))
local macro_rules | `(tactic| walk_at "z") => `(tactic| first
  | ((with_reducible refine' z_var ?zvh ?_); (case zvh => exact rfl))
  | with_reducible refine z_c ?_
  | with_reducible refine z_cons ?_
  | with_reducible refine z_nil ?_
  | with_reducible refine z_op ?_
  | with_reducible refine z_nx ?_
  | with_reducible refine z_seq ?_
  | with_reducible refine z_asg ?_
  | with_reducible refine z_asgG ?_
  | with_reducible refine z_call ?_
  | with_reducible refine z_sq0 ?_
  | with_reducible refine z_sq1 ?_
  | with_reducible refine z_ifS ?_
  | with_reducible refine z_test ?_
  | with_reducible refine z_tb ?_
  | with_reducible refine z_bl ?_
  | with_reducible refine z_blI ?_
  | with_reducible refine z_ret ?_
  | with_reducible refine z_rt ?_
  | with_reducible refine z_T ?_
  | with_reducible refine z_F ?_
  | with_reducible refine z_add ?_
  | with_reducible refine z_sub ?_
  | with_reducible refine z_neg ?_
  | with_reducible refine z_un ?_
  | with_reducible refine z_eqI ?_
  | with_reducible refine z_neI ?_
  | with_reducible refine z_lt ?_
  | with_reducible refine z_le ?_
  | with_reducible refine z_gt ?_
  | with_reducible refine z_ge ?_
  | with_reducible refine z_not ?_
  | with_reducible refine z_and ?_
  | with_reducible refine z_or ?_
  | with_reducible refine z_andV ?_
  | with_reducible refine z_orV ?_
  | with_reducible refine z_notV ?_
  | with_reducible refine z_if ?_
  | with_reducible refine z_cb ?_
  | with_reducible refine z_int1 ?_
  | with_reducible refine z_intb ?_
  | with_reducible refine z_abs ?_
  | with_reducible refine z_gcd ?_
  | with_reducible refine z_isi_ii ?_
  | with_reducible refine z_isi_ib ?_
  | with_reducible refine z_next ?_
  | with_reducible refine z_drop ?_
  | with_reducible refine z_par ?_
  | with_reducible refine z_par2 ?_
  | with_reducible refine z_tupN ?_
  | with_reducible refine z_lstN ?_
  | ((with_reducible refine' z_nt ?zl1 ?_); (case zl1 => exact Nat.le_of_ble_eq_true rfl); intro p H' hp hs he)
  | ((with_reducible refine' z_gtup ?zl1 ?zl2 ?_); (case zl1 => walk_at "up"); (case zl2 => exact rfl))
  | with_reducible refine z_bk ?_
  | with_reducible refine z_ct ?_
  | with_reducible refine z_break ?_
  | with_reducible refine z_cont ?_
  | with_reducible refine z_retN ?_
  | with_reducible refine z_nn ?_
  | with_reducible refine z_mk ?_
  | with_reducible refine z_gn ?_
  | with_reducible refine z_gcons ?_
  | with_reducible refine z_gnil ?_
  | with_reducible refine z_mt ?_
  | with_reducible refine z_mko ?_
  | with_reducible refine z_for2 ?_
  | with_reducible refine z_ownI ?_
  | ((with_reducible refine' z_lenL ?zl1 ?_); (case zl1 => walk_at "up"))
  | ((with_reducible refine' z_ixT ?zl1 ?zl2 ?_); (case zl1 => walk_at "up"); (case zl2 => exact rfl))
  | ((with_reducible refine' z_mulL ?zl1 ?zl2 ?_); (case zl1 => omega); (case zl2 => omega))
  | ((with_reducible refine' z_mulR ?zl1 ?zl2 ?_); (case zl1 => omega); (case zl2 => omega))
  | ((with_reducible refine' z_divS ?zl1 ?zl2 ?_); (case zl1 => omega); (case zl2 => omega))
  | ((with_reducible refine' z_mulW ?zl1 ?zl2 ?zl3 ?zl4 ?_); (case zl1 => omega); (case zl2 => omega); (case zl3 => omega); (case zl4 => omega))
  | ((with_reducible refine' z_divW ?zl1 ?zl2 ?_); (case zl1 => omega); (case zl2 => omega)))
local macro_rules | `(tactic| walk_at "zz") => `(tactic| repeat (walk_at "z"))
local macro_rules | `(tactic| walk_at "z") => `(tactic| with_reducible refine z_lstN ?_)
local macro_rules | `(tactic| walk_at "z") => `(tactic| with_reducible refine z_p6 ?_)
local macro_rules | `(tactic| walk_at "z") => `(tactic| with_reducible refine z_p12 ?_)
local macro_rules | `(tactic| walk_at "z") => `(tactic| with_reducible refine z_p13 ?_)
local macro_rules | `(tactic| walk_at "z") => `(tactic| with_reducible refine z_calln ?_)
local macro_rules | `(tactic| walk_at "z") => `(tactic| with_reducible refine z_xfS ?_)
local macro_rules | `(tactic| walk_at "z") => `(tactic| with_reducible refine z_lcS ?_)
local macro_rules | `(tactic| walk_at "z") => `(tactic| with_reducible refine z_lcRS ?_)
local macro_rules | `(tactic| walk_at "z") => `(tactic| with_reducible refine z_lcZS ?_)
local macro_rules | `(tactic| walk_at "z") => `(tactic| with_reducible refine z_foS ?_)
local macro_rules | `(tactic| walk_at "z") => `(tactic| with_reducible refine z_for1 ?_)
local macro_rules | `(tactic| walk_at "z") => `(tactic| with_reducible refine z_tsl ?_)
local macro_rules | `(tactic| walk_at "z") => `(tactic| with_reducible refine z_np ?_)
local macro_rules | `(tactic| walk_at "z") => `(tactic| with_reducible refine z_pt ?_)
local macro_rules | `(tactic| walk_at "z") => `(tactic| with_reducible refine z_pti ?_)
local macro_rules | `(tactic| walk_at "z") => `(tactic| with_reducible refine z_catI ?_)
local macro_rules | `(tactic| walk_at "z") => `(tactic| with_reducible refine z_isNI ?_)
local macro_rules | `(tactic| walk_at "z") => `(tactic| with_reducible refine z_isNN ?_)
local macro_rules | `(tactic| walk_at "z") => `(tactic| with_reducible refine z_notNI ?_)
local macro_rules | `(tactic| walk_at "z") => `(tactic| with_reducible refine z_notNN ?_)
local macro_rules | `(tactic| walk_at "z") => `(tactic| with_reducible refine z_gsub ?_)
local macro_rules | `(tactic| walk_at "z") => `(tactic| with_reducible refine z_isNb ?_)
local macro_rules | `(tactic| walk_at "z") => `(tactic| with_reducible refine z_notNb ?_)
local macro_rules | `(tactic| walk_at "z") => `(tactic| ((with_reducible refine' z_nlR ?zl1 ?_); (case zl1 => exact Nat.le_of_ble_eq_true rfl); intro p H' hp hs he))
local macro_rules | `(tactic| walk_at "z") => `(tactic| ((with_reducible refine' z_repR ?zl1 ?zl2 ?_); (case zl1 => omega); (case zl2 => omega)))
local macro_rules | `(tactic| walk_at "z") => `(tactic| ((with_reducible refine' z_repL ?zl1 ?zl2 ?_); (case zl1 => omega); (case zl2 => omega)))
local macro_rules | `(tactic| walk_at "z") => `(tactic| ((with_reducible refine' z_lenLst ?zl1 ?_); (case zl1 => walk_at "up")))
local macro_rules | `(tactic| walk_at "z") => `(tactic| ((with_reducible refine' z_cat ?zl1 ?zl2 ?zl3 ?_); (case zl1 => walk_at "up"); (case zl2 => walk_at "up"); (case zl3 => (simp only [List.length_map, List.length_cons, List.length_nil, List.length_append, List.length_replicate]; omega)); intro p H' hp hs he))
local macro_rules | `(tactic| walk_at "z") => `(tactic| with_reducible refine z_sfl ?_)
local macro_rules | `(tactic| walk_at "z") => `(tactic| with_reducible refine z_lcES ?_)
local macro_rules | `(tactic| walk_at "z") => `(tactic| with_reducible refine z_lcMS ?_)
local macro_rules | `(tactic| walk_at "z") => `(tactic| with_reducible refine z_foES ?_)
local macro_rules | `(tactic| walk_at "z") => `(tactic| with_reducible refine z_fo3S ?_)
local macro_rules | `(tactic| walk_at "z") => `(tactic| with_reducible refine z_sta ?_)
local macro_rules | `(tactic| walk_at "z") => `(tactic| with_reducible refine z_sta1 ?_)
local macro_rules | `(tactic| walk_at "z") => `(tactic| ((with_reducible refine' z_fldt ?zc1 ?zc2 ?zl1 ?zl2 ?_); (case zc1 => exact Lw.cl_Ratio (by assumption)); (case zc2 => exact Lw.na_Ratio_top (by assumption)); (case zl1 => exact rfl); (case zl2 => walk_at "up")))
local macro_rules | `(tactic| walk_at "z") => `(tactic| ((with_reducible refine' z_fldb ?zc1 ?zc2 ?zl1 ?zl2 ?_); (case zc1 => exact Lw.cl_Ratio (by assumption)); (case zc2 => exact Lw.na_Ratio_bottom (by assumption)); (case zl1 => exact rfl); (case zl2 => walk_at "up")))
theorem same30b {H H1 H2 : Hp} (h : Same H1 H2) (e : Same H H1) : Same H H2 := e.trans h
local macro_rules | `(tactic| walk_at "sm") => `(tactic| first
  | assumption
  | exact fun _ _ h => h
  | (refine' same30b (by assumption) ?zsm; case zsm => walk_at "sm"))
local macro_rules | `(tactic| walk_at "up") => `(tactic| first
  | assumption
  | (with_reducible refine' IsR.mono (by assumption) ?zup; case zup => walk_at "up")
  | (with_reducible refine' Same.at (by assumption) ?zup; case zup => walk_at "up")
  | fail)
open S31 (cf)
open S30
/-- a Ratio with the value v -/
def IsV (K : Frag) (H : Hp) (p : Addr) (v : Rat) (B : Nat) : Prop := ∃ t b : Int, IsR K H p t b ∧ 0 < b ∧ Bits B t ∧ Bits B b ∧ (t : Rat) = v * (b : Rat)
theorem IsR.monoN {K : Frag} {H H' : Hp} {a : Addr} {t b : Int} (s : SameN H H') (h : IsR K H a t b) : IsR K H' a t b := h.elim fun dx q => ⟨dx, s _ _ q (fun _ z => nomatch z)⟩
theorem IsV.monoN {K : Frag} {H H' : Hp} {p : Addr} {v : Rat} {B : Nat} (s : SameN H H') (h : IsV K H p v B) : IsV K H' p v B := by
  obtain ⟨t, b, h1, h⟩ := h
  exact ⟨t, b, IsR.monoN s h1, h⟩
theorem IsV.mono {K : Frag} {H H' : Hp} {p : Addr} {v : Rat} {B : Nat} (s : Same H H') (h : IsV K H p v B) : IsV K H' p v B := h.monoN (SameN.of s)
/-- lists of Ratios, of pairs -/
def itR (K : Frag) (v : Sq) (B : Nat) : Hp → V → Nat → Prop := fun H x k => ∃ a, x = .ref a ∧ IsV K H a (v k) B
def itP (v : Sq) (B : Nat) : Hp → V → Nat → Prop := fun H x k => ∃ (a : Addr) (t b : Int), x = .ref a ∧ H a = some (.tup [.int t, .int b]) ∧ 0 < b ∧ Bits B t ∧ Bits B b ∧ (t : Rat) = v k * (b : Rat)
theorem itR_mono {K : Frag} {v : Sq} {B : Nat} : Mono (itR K v B) := fun H H' x k s h => by
  obtain ⟨a, e, h⟩ := h
  exact ⟨a, e, h.monoN s⟩
theorem itP_mono {v : Sq} {B : Nat} : Mono (itP v B) := fun H H' x k s h => by
  obtain ⟨a, t, b, e, h, r⟩ := h
  exact ⟨a, t, b, e, s _ _ h (fun _ z => nomatch z), r⟩
def RL (K : Frag) (H : Hp) (l : Addr) (n : Nat) (v : Sq) (B : Nat) : Prop := Ls H l n (itR K v B)
def PL (H : Hp) (l : Addr) (n : Nat) (v : Sq) (B : Nat) : Prop := Ls H l n (itP v B)
theorem RL.mono {K : Frag} {H H' : Hp} {l : Addr} {n : Nat} {v : Sq} {B : Nat} (s : Same H H') (h : RL K H l n v B) : RL K H' l n v B := Ls.mono itR_mono s h
theorem PL.mono {H H' : Hp} {l : Addr} {n : Nat} {v : Sq} {B : Nat} (s : Same H H') (h : PL H l n v B) : PL H' l n v B := Ls.mono itP_mono s h
/-- a Poly of the numbers ls over o -/
def IsQ (K : Frag) (H : Hp) (p : Addr) (ls : List Int) (o : Int) : Prop := ∃ (dx t : Addr), H p = some (.ins (He.ga K "Poly") dx [("numbers", .ref t), ("over", .int o), ("degree", .int ((ls.length : Int) - 1))]) ∧ H t = some (.tup (ls.map V.int))
theorem IsQ.mono {K : Frag} {H H' : Hp} {p : Addr} {ls : List Int} {o : Int} (s : Same H H') (h : IsQ K H p ls o) : IsQ K H' p ls o := by
  obtain ⟨dx, t, h1, h2⟩ := h
  exact ⟨dx, t, s _ _ h1, s _ _ h2⟩
def fs_cn (K : Frag) : F3 := fun a b c H Q E => ∃ v l : Int, a = .int v ∧ b = .int l ∧ (c = .non ∨ ∃ h, c = .int h) ∧
  ((l ≤ v ∧ ∀ h, c = .int h → v ≤ h) → Q .non H) ∧ (¬ (l ≤ v ∧ ∀ h, c = .int h → v ≤ h) → ∀ d H', Same H H' → H' d = some (.xd [("value", .int v)]) → E (.ref (He.ga K "OutOfBounds")) (some d) H')
def fs_cs (K : Frag) : F3 := fun a b c H Q E => ∃ (p : Addr) (xs : List V) (l h : Int), a = .ref p ∧ b = .int l ∧ c = .int h ∧ (H p = some (.lst xs) ∨ H p = some (.tup xs)) ∧
  ((l ≤ xs.length ∧ (xs.length : Int) ≤ h) → Q .non H) ∧ (¬ (l ≤ xs.length ∧ (xs.length : Int) ≤ h) → ∀ d H', Same H H' → H' d = some (.xd [("size", .int (xs.length : Int))]) → E (.ref (He.ga K "BadSize")) (some d) H')
section
variable {P : Program} {w : World} {K : Frag} {mg : Str → Option Value} {base : Heap}
theorem ok_OutOfBoundsD_initD (L : Lw K mg) {fd : FuncData} (F : FunD K "__init__" "OutOfBounds.__init__" (defArgs s_OutOfBoundsD_initD) (defBody s_OutOfBoundsD_initD) (defScope s_OutOfBoundsD_initD) (df_OutOfBoundsD_initD.dvs K) (df_OutOfBoundsD_initD.kws K) (He.fAd K ("OutOfBounds", some "__init__")) fd) : FnOk P w K mg base (L2N.CX P w) 1 (He.fAd K ("OutOfBounds", some "__init__")) fd (["self", "value"] : List Str) (sp2 (fs_ex1 K "OutOfBounds" "value")) := by
  refine FunD.ok F sc_OutOfBoundsD_initD len2 (fun cdv A outer s H vs Q E hr h => ?_)
  obtain ⟨a, b, rfl, h⟩ := h
  refine ⟨_, (pss_one (ps_ost (pv 0) (pv 1))), ?_⟩
  obtain ⟨e, H0, rfl, rfl, h0, k⟩ := h
  exact run_ex1 (L.ox_OutOfBounds).1 L.na_OutOfBounds_value h0 rfl rfl k
theorem c_OutOfBoundsD_initD (L : Lw K mg) : MakX P w K mg base 1 "OutOfBounds" (He.ga K "OutOfBounds") (sp2 (fs_ex1 K "OutOfBounds" "value")) := by
  obtain ⟨fd, F⟩ := L.d_OutOfBoundsD_initD
  exact ⟨⟨_, fd, ["self", "value"], (L.ox_OutOfBounds).1, (L.ox_OutOfBounds).2.1, (L.ox_OutOfBounds).2.2, ok_OutOfBoundsD_initD L F, L.g_OutOfBounds, F.bindsN (fun _ _ _ _ _ _ us hl => match us, hl with | [_, _], _ => rfl)⟩⟩
theorem ok_BadSizeD_initD (L : Lw K mg) {fd : FuncData} (F : FunD K "__init__" "BadSize.__init__" (defArgs s_BadSizeD_initD) (defBody s_BadSizeD_initD) (defScope s_BadSizeD_initD) (df_BadSizeD_initD.dvs K) (df_BadSizeD_initD.kws K) (He.fAd K ("BadSize", some "__init__")) fd) : FnOk P w K mg base (L2N.CX P w) 1 (He.fAd K ("BadSize", some "__init__")) fd (["self", "size"] : List Str) (sp2 (fs_ex1 K "BadSize" "size")) := by
  refine FunD.ok F sc_BadSizeD_initD len2 (fun cdv A outer s H vs Q E hr h => ?_)
  obtain ⟨a, b, rfl, h⟩ := h
  refine ⟨_, (pss_one (ps_ost (pv 0) (pv 1))), ?_⟩
  obtain ⟨e, H0, rfl, rfl, h0, k⟩ := h
  exact run_ex1 (L.ox_BadSize).1 L.na_BadSize_size h0 rfl rfl k
theorem c_BadSizeD_initD (L : Lw K mg) : MakX P w K mg base 1 "BadSize" (He.ga K "BadSize") (sp2 (fs_ex1 K "BadSize" "size")) := by
  obtain ⟨fd, F⟩ := L.d_BadSizeD_initD
  exact ⟨⟨_, fd, ["self", "size"], (L.ox_BadSize).1, (L.ox_BadSize).2.1, (L.ox_BadSize).2.2, ok_BadSizeD_initD L F, L.g_BadSize, F.bindsN (fun _ _ _ _ _ _ us hl => match us, hl with | [_, _], _ => rfl)⟩⟩
theorem ok_check_number (L : Lw K mg) {fd : FuncData} (F : FunD K "check_number" "check_number" (defArgs s_check_number) (defBody s_check_number) (defScope s_check_number) (df_check_number.dvs K) (df_check_number.kws K) (He.fAd K ("check_number", none)) fd) : FnOk P w K mg base (L2N.CX P w) 3 (He.fAd K ("check_number", none)) fd (["value", "low", "high"] : List Str) (sp3 (fs_cn K)) := by
  refine FunD.ok F sc_check_number len3 (fun cdv A outer s H vs Q E hr h => ?_)
  obtain ⟨a, b, c, rfl, h⟩ := h
  refine ⟨_, (pss_one (ps_if (PW.pt (pw_or (pt_cmpR o_lt (pv 0) (pv 1) (nomark _)) (pw_or1 (PW.pt (pw_and (pt_cmpR o_notN (pv 2) pe_non (nomark _)) (pw_and1 (pt_cmpR o_gt (pv 0) (pv 2) (nomark _)))))))) (pss_one (L2N.ps_raise rfl (L2N.takes_of rfl rfl rfl rfl) (pmk_x (c_OutOfBoundsD_initD (K := K) L) hr (by decide) passF (pa_cons (pv 0) pa_nil)))) pss_nil)), ?_⟩
  obtain ⟨v, l, rfl, rfl, hc, k, kx⟩ := h
  walk_at "zz"
  refine z_d2 (fun c => ?_) (fun c => ?_)
  · walk_at "zz"
    exact z_exo1 (kx (by omega))
  · rcases hc with rfl | ⟨h, rfl⟩
    · walk_at "zz"
      exact k ⟨by omega, fun h e => by cases e⟩
    · walk_at "zz"
      refine z_d2 (fun c2 => ?_) (fun c2 => ?_)
      · walk_at "zz"
        exact z_exo1 (kx (fun z => absurd (z.2 h rfl) (by omega)))
      · walk_at "zz"
        exact k ⟨by omega, fun h' e => by cases e; omega⟩
theorem c_check_number (L : Lw K mg) : Cal P w K mg base 3 "check_number" (sp3 (fs_cn K)) [] := by
  obtain ⟨fd, F⟩ := L.d_check_number
  obtain ⟨ds, vds, bds⟩ := F.binds1 (ps := ["value", "low", "high"]) 3 1 (by intro z; cases z) rfl (fun _ _ _ _ _ _ _ us its hl hi => match us, its, hl, hi with | [_, _, _], [_], _, _ => ⟨_, rfl, rfl⟩)
  exact ⟨⟨_, fd, ["value", "low", "high"], ds, ok_check_number L F, L.g_check_number, F.kp, bds, vds⟩⟩
theorem ok_check_size (L : Lw K mg) {fd : FuncData} (F : FunD K "check_size" "check_size" (defArgs s_check_size) (defBody s_check_size) (defScope s_check_size) (df_check_size.dvs K) (df_check_size.kws K) (He.fAd K ("check_size", none)) fd) : FnOk P w K mg base (L2N.CX P w) 3 (He.fAd K ("check_size", none)) fd (["things", "low", "high"] : List Str) (sp3 (fs_cs K)) := by
  refine FunD.ok F sc_check_size len3 (fun cdv A outer s H vs Q E hr h => ?_)
  obtain ⟨a, b, c, rfl, h⟩ := h
  refine ⟨_, (pss_cons (ps_set (i := 3) sc_check_size.nd rfl (by first | exact Or.inl rfl | exact Or.inr rfl) (pe_callB (callK rLen1 (K := K) rfl o_len) (by rfl) L.f_len (by decide +kernel) (pa_cons (pv 0) pa_nil)))
    (pss_one (ps_if (PW.pt (pw_or (pt_cmpR o_lt (pv 3) (pv 1) (nomark _)) (pw_or1 (pt_cmpR o_gt (pv 3) (pv 2) (nomark _))))) (pss_one (L2N.ps_raise rfl (L2N.takes_of rfl rfl rfl rfl) (pmk_x (c_BadSizeD_initD (K := K) L) hr (by decide) passF (pa_cons (pv 3) pa_nil)))) pss_nil))), ?_⟩
  obtain ⟨p, xs, l, h, rfl, rfl, rfl, hp, k, kx⟩ := h
  rcases hp with hp | hp
  · walk_at "zz"
    refine z_d2 (fun c => ?_) (fun c => ?_)
    · walk_at "zz"
      exact z_exo1 (kx (by omega))
    · walk_at "zz"
      refine z_d2 (fun c2 => ?_) (fun c2 => ?_)
      · walk_at "zz"
        exact z_exo1 (kx (by omega))
      · walk_at "zz"
        exact k (by omega)
  · walk_at "zz"
    refine z_lenT hp ?_
    walk_at "zz"
    refine z_d2 (fun c => ?_) (fun c => ?_)
    · walk_at "zz"
      exact z_exo1 (kx (by omega))
    · walk_at "zz"
      refine z_d2 (fun c2 => ?_) (fun c2 => ?_)
      · walk_at "zz"
        exact z_exo1 (kx (by omega))
      · walk_at "zz"
        exact k (by omega)
theorem c_check_size (L : Lw K mg) : Cal P w K mg base 3 "check_size" (sp3 (fs_cs K)) [] := by
  obtain ⟨fd, F⟩ := L.d_check_size
  exact ⟨⟨_, fd, ["things", "low", "high"], [], ok_check_size L F, L.g_check_size, F.kp, F.bindsN (fun _ _ _ _ _ _ us hl => match us, hl with | [_, _, _], _ => rfl), .nil⟩⟩
end
end T
set_option maxHeartbeats 4000000
namespace T
open PySem PySem.Spec PyProof.Rows L2 Z
open S31 (cf)
open S30
theorem z_repU0 {i j : Int} {a b : Nat} {H : Hp} {Q : VK} (ha : Bits a i) (hb : Bits b j) (h : a + b ≤ 900000) (q : Q (.int (i * j)) H) : zRep (.int i) (.int j) H Q := z_repB (ha.up (Nat.le_succ a)) (hb.up (Nat.le_succ b)) (Nat.succ_pos a) (Nat.succ_pos b) (by omega) q
/-- a Ratio in lowest terms, equal to T / w -/
def Fr (K : Frag) (H : Hp) (a : Addr) (T w : Int) : Prop := ∃ t b : Int, IsR K H a t b ∧ 0 < b ∧ Int.gcd t b = 1 ∧ t * w = T * b
theorem Fr.monoN {K : Frag} {H H' : Hp} {a : Addr} {T w : Int} (s : SameN H H') (h : Fr K H a T w) : Fr K H' a T w := by
  obtain ⟨t, b, h1, h⟩ := h
  exact ⟨t, b, IsR.monoN s h1, h⟩
theorem Fr.mono {K : Frag} {H H' : Hp} {a : Addr} {T w : Int} (s : Same H H') (h : Fr K H a T w) : Fr K H' a T w := h.monoN (SameN.of s)
theorem mul_cancel {x y d : Int} (hd : 0 < d) (e : x * d = y * d) : x = y := Int.eq_of_mul_eq_mul_right (by omega) e
theorem Fr.cast {K : Frag} {H : Hp} {a : Addr} {n d T w : Int} (h : Fr K H a n d) (hd : 0 < d) (e : n * w = T * d) : Fr K H a T w := by
  obtain ⟨t, b, h1, h2, h3, h4⟩ := h
  refine ⟨t, b, h1, h2, h3, mul_cancel hd ?_⟩
  have : t * w * d = (t * d) * w := by grind
  rw [this, h4]
  have : n * b * w = (n * w) * b := by grind
  rw [this, e]
  grind
theorem fr_le {t b T w : Int} (h0 : 0 < b) (g : Int.gcd t b = 1) (w0 : 0 < w) (e : t * w = T * b) : b ≤ w ∧ t.natAbs ≤ T.natAbs ∧ b ∣ w := by
  have d : b.natAbs ∣ t.natAbs * w.natAbs := by
    rw [← Int.natAbs_mul, e, Int.natAbs_mul]
    exact Nat.dvd_mul_left _ _
  have d2 : b.natAbs ∣ w.natAbs := Nat.Coprime.dvd_of_dvd_mul_left (by
    have : Nat.gcd t.natAbs b.natAbs = 1 := g
    rw [Nat.Coprime, Nat.gcd_comm]
    exact this) d
  have d3 : b ∣ w := Int.natAbs_dvd_natAbs.mp d2
  have l : b ≤ w := Int.le_of_dvd w0 d3
  refine ⟨l, ?_, d3⟩
  have e2 : t.natAbs * w.natAbs = T.natAbs * b.natAbs := by rw [← Int.natAbs_mul, e, Int.natAbs_mul]
  have e3 : T.natAbs * b.natAbs ≤ T.natAbs * w.natAbs := Nat.mul_le_mul_left _ (by omega)
  exact Nat.le_of_mul_le_mul_right (by omega : t.natAbs * w.natAbs ≤ T.natAbs * w.natAbs) (by omega)
theorem fr_bits {t b T w : Int} {B C : Nat} (h0 : 0 < b) (g : Int.gcd t b = 1) (w0 : 0 < w) (e : t * w = T * b) (hT : Bits B T) (hw : Bits C w) : Bits B t ∧ Bits C b := by
  obtain ⟨l1, l2, _⟩ := fr_le h0 g w0 e
  exact ⟨hT.le l2, hw.le (by omega)⟩
theorem u_mkF {K : Frag} {H : Hp} {Q : VK} {E : XK} {n d T w : Int} (hd : 0 < d) (h9 : Bits 8999 d) (e : n * w = T * d) (k : ∀ p H', Same H H' → Fr K H' p T w → Q (.ref p) H') :
    zMk (He.ga K "Ratio") (sp3 (fs_rinit K)) [] E [.int n, .int d] H Q :=
  z_mkR (by omega) h9 fun p H' s h => k p H' s (Fr.cast (n := n) (d := d) ⟨_, _, h, rt_spec hd⟩ hd e)
theorem u_mtF {K : Frag} {H : Hp} {p : Addr} {S w : Int} {m : Str} {R : Prop} (h : Fr K H p S w) (q : R) (h1 : ¬ m = "top" := by decide +kernel) (h2 : ¬ m = "bottom" := by decide +kernel) : zMt (He.ga K "Ratio") m (.ref p) H R := by
  obtain ⟨t, b, hr, _⟩ := h
  exact z_mtR hr q h1 h2
def itF (K : Frag) (T : Nat → Int) (w : Int) : Hp → V → Nat → Prop := fun H x k => ∃ a, x = .ref a ∧ Fr K H a (T k) w
theorem itF_mono {K : Frag} {T : Nat → Int} {w : Int} : Mono (itF K T w) := fun H H' x k s h => by
  obtain ⟨a, e, h⟩ := h
  exact ⟨a, e, h.monoN s⟩
/-- a list or a tuple of n Ratios -/
def FS (K : Frag) (H : Hp) (g : Addr) (xs : List V) (T : Nat → Int) (w : Int) : Prop := Sq2 H g xs ∧ ∀ k x, xs[k]? = some x → itF K T w H x k
theorem FS.mono {K : Frag} {H H' : Hp} {g : Addr} {xs : List V} {T : Nat → Int} {w : Int} (s : Same H H') (h : FS K H g xs T w) : FS K H' g xs T w := ⟨h.1.mono s, fun k x e => itF_mono _ _ _ _ (SameN.of s) (h.2 k x e)⟩
def sm (T : Nat → Int) : Nat → Int
  | 0 => 0
  | n + 1 => sm T n + T n
def fs_fsgn (K : Frag) : F1 := fun a H Q _ => ∃ (p : Addr) (T w : Int), a = .ref p ∧ Fr K H p T w ∧ 0 < w ∧ Q (.int (if T < 0 then -1 else if 0 < T then 1 else 0)) H
theorem fr_neg {t b T w : Int} (h0 : 0 < b) (w0 : 0 < w) (e : t * w = T * b) : (t < 0 ↔ T < 0) ∧ (0 < t ↔ 0 < T) := by
  constructor
  · constructor
    · intro h
      refine Int.not_le.mp fun z => ?_
      have := Int.mul_neg_of_neg_of_pos h w0
      have := Int.mul_nonneg z (show 0 ≤ b by omega)
      omega
    · intro h
      refine Int.not_le.mp fun z => ?_
      have := Int.mul_neg_of_neg_of_pos h h0
      have := Int.mul_nonneg z (show 0 ≤ w by omega)
      omega
  · constructor
    · intro h
      refine Int.not_le.mp fun z => ?_
      have := Int.mul_pos h w0
      have := Int.mul_nonpos_of_nonpos_of_nonneg z (show 0 ≤ b by omega)
      omega
    · intro h
      refine Int.not_le.mp fun z => ?_
      have := Int.mul_pos h h0
      have := Int.mul_nonpos_of_nonpos_of_nonneg z (show 0 ≤ w by omega)
      omega
theorem FS.fn {K : Frag} {H : Hp} {g : Addr} {xs : List V} {T : Nat → Int} {w : Int} (h : FS K H g xs T w) : ∃ ts bs : Nat → Int, ∀ k x, xs[k]? = some x → ∃ a, x = .ref a ∧ IsR K H a (ts k) (bs k) ∧ 0 < bs k ∧ Int.gcd (ts k) (bs k) = 1 ∧ ts k * w = T k * bs k := by
  have q : ∀ k, ∃ p : Int × Int, ∀ x, xs[k]? = some x → ∃ a, x = .ref a ∧ IsR K H a p.1 p.2 ∧ 0 < p.2 ∧ Int.gcd p.1 p.2 = 1 ∧ p.1 * w = T k * p.2 := fun k => by
    cases e : xs[k]? with
    | none => exact ⟨(0, 0), fun x z => nomatch z⟩
    | some x =>
      obtain ⟨a, ex, t, b, h1, h2, h3, h4⟩ := h.2 k x e
      refine ⟨(t, b), fun y z => ?_⟩
      cases z
      exact ⟨a, ex, h1, h2, h3, h4⟩
  obtain ⟨f, hf⟩ := Classical.axiomOfChoice q
  exact ⟨fun k => (f k).1, fun k => (f k).2, fun k x e => hf k x e⟩
end T
set_option maxHeartbeats 400000
namespace T
open PySem PySem.Spec PyProof.Rows L2 Z
theorem bpow {B : Nat} {b : Int} (h : Bits B b) (j : Nat) : Bits (B * j + 1) (b ^ j) := by
  unfold Bits at *
  rw [Int.natAbs_pow]
  refine Nat.lt_of_le_of_lt (Nat.pow_le_pow_left (Nat.le_of_lt h) j) ?_
  rw [← Nat.pow_mul, Nat.pow_succ]
  have := Nat.two_pow_pos (B * j)
  omega
theorem nbits {n : Nat} : n < 2 ^ Builtin.Int.intBits (n : Int) := by
  unfold Builtin.Int.intBits
  split
  · rename_i h
    have : (n : Int) = 0 := by simpa using h
    have : n = 0 := by omega
    rw [this]
    decide
  · exact Nat.lt_log2_self
theorem nbits_le {n : Nat} {k : Nat} (h : n < 2 ^ k) : Builtin.Int.intBits (n : Int) ≤ k := PyProof.Rows.intBits_le (by simpa using h)
def fs_wp : F2 := fun x y H Q _ => ∃ (b : Int) (e B : Nat), x = .int b ∧ y = .int (e : Int) ∧ Bits B b ∧ e ≤ 100000 ∧ B * e + 2 ≤ 800000 ∧ Q (.int (b ^ e)) H
theorem u_wp {H : Hp} {Q : VK} {E : XK} {b : Int} {e B : Nat} (h : Bits B b) (he : e ≤ 100000) (hB : B * e + 2 ≤ 800000) (q : Q (.int (b ^ e)) H) : sp2 fs_wp [.int b, .int (e : Int)] H Q E := ⟨_, _, rfl, b, e, B, rfl, rfl, h, he, hB, q⟩
def fs_wr : F2 := fun x y H Q _ => ∃ (N K b : Nat), x = .int (N : Int) ∧ y = .int ((K + 1 : Nat) : Int) ∧ N < 2 ^ b ∧ K < 5000 ∧ b ≤ 300000 ∧ b ≤ 1000 * (K + 1) ∧ ∀ r : Nat, S02.Rt N r (K + 1) → (r : Int) < 2 ^ (b / (K + 1) + 1) → Q (.int (r : Int)) H
theorem two_cast (n : Nat) : ((2 ^ n : Nat) : Int) = 2 ^ n := by rw [Int.natCast_pow] <;> rfl
theorem log_lt {x K : Nat} (h0 : 0 < x) (h : x ≤ 2 ^ K) : x.log2 < K + 1 := (Nat.log2_lt (by omega)).mpr (by
  rw [Nat.pow_succ]
  have := Nat.two_pow_pos K
  omega)
theorem cdiv {N K c : Nat} {ro : Int} (h0 : 0 < ro) (hN : (N : Int) < (ro + 1) ^ (K + 1)) (hK : K < 5000) (hr : ro ≤ 2 ^ c) (hc : c ≤ 1001) : CDivP (N : Int) (ro ^ K) := by
  have p : 0 < ro ^ K := Int.pow_pos h0
  by_cases q : ro ≤ 2
  · refine ⟨p, PyProof.noPylong_of_log2 ?_⟩
    have h1 : ro ^ K ≤ 2 ^ K := S02.pow_le (by omega) q K
    have h2 : (ro ^ K).natAbs ≤ 2 ^ K := by
      have e := two_cast K
      omega
    have := log_lt (by omega) h2
    omega
  · refine divp_ok p ?_
    have h1 := S02.pow_more (r := ro) (by omega) (K + 1)
    obtain ⟨P, hP⟩ : ∃ P : Nat, (P : Int) = ro ^ K := ⟨(ro ^ K).toNat, by omega⟩
    obtain ⟨R, hR⟩ : ∃ R : Nat, (R : Int) = ro := ⟨ro.toNat, by omega⟩
    rw [← hP]
    have bP := nbits (n := P)
    have R1 : R ≤ 2 ^ c := by
      have e := two_cast c
      have : (R : Int) ≤ ((2 ^ c : Nat) : Int) := by rw [e, hR]; exact hr
      exact_mod_cast this
    have hN2 : N < 2 ^ ((K + 1) / 2 + 1) * (P * R) := by
      have e := two_cast ((K + 1) / 2 + 1)
      have : (N : Int) < ((2 ^ ((K + 1) / 2 + 1) * (P * R) : Nat) : Int) := by
        rw [Int.natCast_mul, Int.natCast_mul, e, hP, hR]
        rw [Int.pow_succ ro] at h1
        exact Int.lt_of_lt_of_le hN h1
      exact_mod_cast this
    have key : N < 2 ^ ((K + 1) / 2 + 1 + (Builtin.Int.intBits (P : Int) + c)) := by
      refine Nat.lt_of_lt_of_le hN2 ?_
      have h5 : P * R ≤ 2 ^ (Builtin.Int.intBits (P : Int) + c) := by
        rw [Nat.pow_add]
        exact Nat.mul_le_mul (Nat.le_of_lt bP) R1
      rw [Nat.pow_add 2 ((K + 1) / 2 + 1)]
      exact Nat.mul_le_mul_left _ h5
    have := nbits_le key
    omega
theorem root_hi {m K : Nat} {N : Nat} (h : N < 2 ^ m) : (N : Int) < (2 ^ (m / (K + 1) + 1)) ^ (K + 1) := by
  have e : (2 : Nat) ^ m ≤ (2 ^ (m / (K + 1) + 1)) ^ (K + 1) := by
    rw [← Nat.pow_mul]
    refine Nat.pow_le_pow_right (by decide) ?_
    have := Nat.div_add_mod m (K + 1)
    have h2 := Nat.mod_lt m (show 0 < K + 1 by omega)
    rw [Nat.add_mul, Nat.one_mul, Nat.mul_comm]
    omega
  have : (N : Int) < (((2 ^ (m / (K + 1) + 1)) ^ (K + 1) : Nat) : Int) := by
    have := Nat.lt_of_lt_of_le h e
    exact_mod_cast this
  rwa [Int.natCast_pow, two_cast] at this
theorem pow_bound {m K b : Nat} (h : m ≤ b) : (2 : Int) ^ (m / (K + 1) + 1) ≤ 2 ^ (b / (K + 1) + 1) := by
  have := Nat.pow_le_pow_right (show 0 < 2 by decide) (show m / (K + 1) + 1 ≤ b / (K + 1) + 1 from Nat.succ_le_succ (Nat.div_le_div_right h))
  rw [← two_cast, ← two_cast]
  exact_mod_cast this
def nx2 (N : Nat) (ro : Int) (K : Nat) : Int := ((K : Int) * ro + (N : Int) / ro ^ K) / ((K + 1 : Nat) : Int)
theorem nx2_eq {N K : Nat} {ro : Int} : nx2 N ro K = S02.nxt N ro K := by
  unfold nx2 S02.nxt
  rw [show ((K + 1 : Nat) : Int) = (K : Int) + 1 by omega]
theorem bits_of_le {c : Nat} {r : Int} (h0 : 0 ≤ r) (h : r ≤ 2 ^ c) : Bits (c + 1) r := by
  unfold Bits
  rw [← two_cast] at h
  rw [Nat.pow_succ]
  have := Nat.two_pow_pos c
  omega
theorem pow_bit {b : Int} {q : Nat} : b ^ (q / 2) * b ^ (q / 2) = b ^ (q - q % 2) ∧ (q % 2 = 1 → b ^ (q - q % 2) * b = b ^ q) := by
  constructor
  · rw [← Int.pow_add]
    congr 1
    omega
  · intro h
    rw [← Int.pow_succ]
    congr 1
    omega
theorem half_div {n d : Nat} : n / (2 * d) = n / d / 2 := by rw [Nat.mul_comm, Nat.div_div_eq_div_mul]
end T
set_option maxHeartbeats 4000000
namespace T
open PySem PySem.Spec PyProof.Rows L2 Z
local macro_rules | `(tactic| walk_at "up") => `(tactic| first
  | assumption
  | (refine' IsR.mono (by assumption) ?zup; case zup => walk_at "up")
  | (refine' IsE.mono (by assumption) ?zup; case zup => walk_at "up")
  | (refine' Same.at (by assumption) ?zup; case zup => walk_at "up")
  | (refine' SqL.of ?zup; case zup => walk_at "up")
  | (refine' L2.Same.seq (by assumption) ?zup; case zup => walk_at "up"))
local macro_rules | `(tactic| walk_at "z") => `(tactic| first
  | ((with_reducible refine' z_var ?zvh ?_); (case zvh => exact rfl))
  | with_reducible refine z_c ?_
  | with_reducible refine z_cons ?_
  | with_reducible refine z_nil ?_
  | with_reducible refine z_op ?_
  | with_reducible refine z_nx ?_
  | with_reducible refine z_seq ?_
  | with_reducible refine z_asg ?_
  | with_reducible refine z_asgG ?_
  | with_reducible refine z_call ?_
  | with_reducible refine z_sq0 ?_
  | with_reducible refine z_sq1 ?_
  | with_reducible refine z_ifS ?_
  | with_reducible refine z_test ?_
  | with_reducible refine z_tb ?_
  | with_reducible refine z_bl ?_
  | with_reducible refine z_blI ?_
  | with_reducible refine z_ret ?_
  | with_reducible refine z_rt ?_
  | with_reducible refine z_T ?_
  | with_reducible refine z_F ?_
  | with_reducible refine z_add ?_
  | with_reducible refine z_sub ?_
  | with_reducible refine z_neg ?_
  | with_reducible refine z_un ?_
  | with_reducible refine z_eqI ?_
  | with_reducible refine z_neI ?_
  | with_reducible refine z_lt ?_
  | with_reducible refine z_le ?_
  | with_reducible refine z_gt ?_
  | with_reducible refine z_ge ?_
  | with_reducible refine z_not ?_
  | with_reducible refine z_and ?_
  | with_reducible refine z_or ?_
  | with_reducible refine z_andV ?_
  | with_reducible refine z_orV ?_
  | with_reducible refine z_notV ?_
  | with_reducible refine z_if ?_
  | with_reducible refine z_cb ?_
  | with_reducible refine z_int1 ?_
  | with_reducible refine z_intb ?_
  | with_reducible refine z_abs ?_
  | with_reducible refine z_gcd ?_
  | with_reducible refine z_isi_ii ?_
  | with_reducible refine z_isi_ib ?_
  | with_reducible refine z_next ?_
  | with_reducible refine z_drop ?_
  | with_reducible refine z_par ?_
  | with_reducible refine z_par2 ?_
  | with_reducible refine z_tupN ?_
  | with_reducible refine z_lstN ?_
  | ((with_reducible refine' z_nt ?zl1 ?_); (case zl1 => exact Nat.le_of_ble_eq_true rfl); intro p H' hp hs he)
  | ((with_reducible refine' z_gtup ?zl1 ?zl2 ?_); (case zl1 => walk_at "up"); (case zl2 => exact rfl))
  | with_reducible refine z_bk ?_
  | with_reducible refine z_ct ?_
  | with_reducible refine z_break ?_
  | with_reducible refine z_cont ?_
  | with_reducible refine z_retN ?_
  | with_reducible refine z_nn ?_
  | with_reducible refine z_mk ?_
  | with_reducible refine z_gn ?_
  | with_reducible refine z_gcons ?_
  | with_reducible refine z_gnil ?_
  | with_reducible refine z_mt ?_
  | with_reducible refine z_mko ?_
  | with_reducible refine z_for2 ?_
  | with_reducible refine z_ownI ?_
  | ((with_reducible refine' z_lenL ?zl1 ?_); (case zl1 => walk_at "up"))
  | ((with_reducible refine' z_ixT ?zl1 ?zl2 ?_); (case zl1 => walk_at "up"); (case zl2 => exact rfl))
  | ((with_reducible refine' z_mulL ?zl1 ?zl2 ?_); (case zl1 => omega); (case zl2 => omega))
  | ((with_reducible refine' z_mulR ?zl1 ?zl2 ?_); (case zl1 => omega); (case zl2 => omega))
  | ((with_reducible refine' z_divS ?zl1 ?zl2 ?_); (case zl1 => omega); (case zl2 => omega))
  | ((with_reducible refine' z_mulW ?zl1 ?zl2 ?zl3 ?zl4 ?_); (case zl1 => omega); (case zl2 => omega); (case zl3 => omega); (case zl4 => omega))
  | ((with_reducible refine' z_divW ?zl1 ?zl2 ?_); (case zl1 => omega); (case zl2 => omega)))
local macro_rules | `(tactic| walk_at "zz") => `(tactic| repeat (walk_at "z"))
local macro_rules | `(tactic| walk_at "z") => `(tactic| with_reducible refine z_lstN ?_)
local macro_rules | `(tactic| walk_at "z") => `(tactic| with_reducible refine z_p6 ?_)
local macro_rules | `(tactic| walk_at "z") => `(tactic| with_reducible refine z_p12 ?_)
local macro_rules | `(tactic| walk_at "z") => `(tactic| with_reducible refine z_p13 ?_)
local macro_rules | `(tactic| walk_at "z") => `(tactic| with_reducible refine z_calln ?_)
local macro_rules | `(tactic| walk_at "z") => `(tactic| with_reducible refine z_xfS ?_)
local macro_rules | `(tactic| walk_at "z") => `(tactic| with_reducible refine z_lcS ?_)
local macro_rules | `(tactic| walk_at "z") => `(tactic| with_reducible refine z_lcRS ?_)
local macro_rules | `(tactic| walk_at "z") => `(tactic| with_reducible refine z_lcZS ?_)
local macro_rules | `(tactic| walk_at "z") => `(tactic| with_reducible refine z_foS ?_)
local macro_rules | `(tactic| walk_at "z") => `(tactic| with_reducible refine z_for1 ?_)
local macro_rules | `(tactic| walk_at "z") => `(tactic| with_reducible refine z_tsl ?_)
local macro_rules | `(tactic| walk_at "z") => `(tactic| with_reducible refine z_np ?_)
local macro_rules | `(tactic| walk_at "z") => `(tactic| with_reducible refine z_pt ?_)
local macro_rules | `(tactic| walk_at "z") => `(tactic| with_reducible refine z_pti ?_)
local macro_rules | `(tactic| walk_at "z") => `(tactic| with_reducible refine z_catI ?_)
local macro_rules | `(tactic| walk_at "z") => `(tactic| with_reducible refine z_isNI ?_)
local macro_rules | `(tactic| walk_at "z") => `(tactic| with_reducible refine z_isNN ?_)
local macro_rules | `(tactic| walk_at "z") => `(tactic| with_reducible refine z_notNI ?_)
local macro_rules | `(tactic| walk_at "z") => `(tactic| with_reducible refine z_notNN ?_)
local macro_rules | `(tactic| walk_at "z") => `(tactic| with_reducible refine z_gsub ?_)
local macro_rules | `(tactic| walk_at "z") => `(tactic| with_reducible refine z_isNb ?_)
local macro_rules | `(tactic| walk_at "z") => `(tactic| with_reducible refine z_notNb ?_)
local macro_rules | `(tactic| walk_at "z") => `(tactic| ((with_reducible refine' z_nlR ?zl1 ?_); (case zl1 => exact Nat.le_of_ble_eq_true rfl); intro p H' hp hs he))
local macro_rules | `(tactic| walk_at "z") => `(tactic| ((with_reducible refine' z_repR ?zl1 ?zl2 ?_); (case zl1 => omega); (case zl2 => omega)))
local macro_rules | `(tactic| walk_at "z") => `(tactic| ((with_reducible refine' z_repL ?zl1 ?zl2 ?_); (case zl1 => omega); (case zl2 => omega)))
local macro_rules | `(tactic| walk_at "z") => `(tactic| ((with_reducible refine' z_lenLst ?zl1 ?_); (case zl1 => walk_at "up")))
local macro_rules | `(tactic| walk_at "z") => `(tactic| ((with_reducible refine' z_cat ?zl1 ?zl2 ?zl3 ?_); (case zl1 => walk_at "up"); (case zl2 => walk_at "up"); (case zl3 => (simp only [List.length_map, List.length_cons, List.length_nil, List.length_append, List.length_replicate]; omega)); intro p H' hp hs he))
local macro_rules | `(tactic| walk_at "z") => `(tactic| with_reducible refine z_sfl ?_)
local macro_rules | `(tactic| walk_at "z") => `(tactic| with_reducible refine z_lcES ?_)
local macro_rules | `(tactic| walk_at "z") => `(tactic| with_reducible refine z_lcMS ?_)
local macro_rules | `(tactic| walk_at "z") => `(tactic| with_reducible refine z_foES ?_)
local macro_rules | `(tactic| walk_at "z") => `(tactic| with_reducible refine z_fo3S ?_)
local macro_rules | `(tactic| walk_at "z") => `(tactic| with_reducible refine z_sta ?_)
local macro_rules | `(tactic| walk_at "z") => `(tactic| with_reducible refine z_sta1 ?_)
local macro_rules | `(tactic| walk_at "z") => `(tactic| with_reducible refine z_lcTS ?_)
local macro_rules | `(tactic| walk_at "z") => `(tactic| with_reducible refine z_foTS ?_)
local macro_rules | `(tactic| walk_at "z") => `(tactic| with_reducible refine z_revTS ?_)
local macro_rules | `(tactic| walk_at "z") => `(tactic| with_reducible refine z_max2 ?_)
local macro_rules | `(tactic| walk_at "z") => `(tactic| ((with_reducible refine' z_fldt ?zc1 ?zc2 ?zl1 ?zl2 ?_); (case zc1 => exact Lw.cl_Ratio (by assumption)); (case zc2 => exact Lw.na_Ratio_top (by assumption)); (case zl1 => exact rfl); (case zl2 => walk_at "up")))
local macro_rules | `(tactic| walk_at "z") => `(tactic| ((with_reducible refine' z_fldb ?zc1 ?zc2 ?zl1 ?zl2 ?_); (case zc1 => exact Lw.cl_Ratio (by assumption)); (case zc2 => exact Lw.na_Ratio_bottom (by assumption)); (case zl1 => exact rfl); (case zl2 => walk_at "up")))
local macro_rules | `(tactic| walk_at "z") => `(tactic| ((with_reducible refine' u_mtF ?zl1 ?_); (case zl1 => walk_at "up")))
local macro_rules | `(tactic| walk_at "z") => `(tactic| ((with_reducible refine' z_ixLst ?zl1 ?zl2 ?_); (case zl1 => walk_at "up"); (case zl2 => exact rfl)))
local macro_rules | `(tactic| walk_at "z") => `(tactic| with_reducible refine z_for3 ?_)
local macro_rules | `(tactic| walk_at "z") => `(tactic| with_reducible refine z_tbits ?_)
local macro_rules | `(tactic| walk_at "z") => `(tactic| with_reducible refine z_tbi ?_)
local macro_rules | `(tactic| walk_at "z") => `(tactic| ((with_reducible refine' z_div2S ?zl1 ?zl2 ?_); (case zl1 => omega); (case zl2 => omega)))
theorem same02b {H H1 H2 : Hp} (h : Same H1 H2) (e : Same H H1) : Same H H2 := e.trans h
local macro_rules | `(tactic| walk_at "sm") => `(tactic| first
  | assumption
  | exact fun _ _ h => h
  | (refine' same02b (by assumption) ?zsm; case zsm => walk_at "sm"))
local macro_rules | `(tactic| walk_at "up") => `(tactic| first
  | assumption
  | (with_reducible refine' IsR.mono (by assumption) ?zup; case zup => walk_at "up")
  | (with_reducible refine' Fr.mono (by assumption) ?zup; case zup => walk_at "up")
  | (with_reducible refine' Same.at (by assumption) ?zup; case zup => walk_at "up")
  | fail)
section
variable {P : Program} {w : World} {K : Frag} {mg : Str → Option Value} {base : Heap}
theorem ok_Ratio_sign (L : Lw K mg) {fd : FuncData} (F : FunD K "sign" "Ratio.sign" (defArgs s_Ratio_sign) (defBody s_Ratio_sign) (defScope s_Ratio_sign) (df_Ratio_sign.dvs K) (df_Ratio_sign.kws K) (He.fAd K ("Ratio", some "sign")) fd) : FnOk P w K mg base (L2N.CX P w) 1 (He.fAd K ("Ratio", some "sign")) fd (["self"] : List Str) (sp1 (fs_fsgn K)) := by
  refine FunD.ok F sc_Ratio_sign len1 (fun cdv A outer s H vs Q E hr h => ?_)
  obtain ⟨a, rfl, h⟩ := h
  refine ⟨_, (pss_cons (ps_if (pt_cmpR o_lt (pe_fld (pv 0) rfl) pe_int (nomark _)) (pss_one (ps_ret (pe_un o_neg pe_int))) pss_nil)
    (pss_one (ps_ret (pe_ifExp (pt_cmpR o_gt (pe_fld (pv 0) rfl) pe_int (nomark _)) pe_int pe_int)))), ?_⟩
  obtain ⟨p, T, w, rfl, ⟨t, b, h1, b0, g, e⟩, w0, q⟩ := h
  obtain ⟨c1, c2⟩ := fr_neg b0 w0 e
  walk_at "zz"
  refine z_d2 (fun c => ?_) (fun c => ?_)
  · rw [if_pos (c1.mp c)] at q
    walk_at "zz"
    exact q
  · rw [if_neg (fun z => c (c1.mpr z))] at q
    walk_at "zz"
    refine z_d2 (fun c => ?_) (fun c => ?_)
    · rw [if_pos (c2.mp c)] at q
      walk_at "zz"
      exact q
    · rw [if_neg (fun z => c (c2.mpr z))] at q
      walk_at "zz"
      exact q
theorem c_Ratio_sign (L : Lw K mg) : Met P w K mg base 1 (He.ga K "Ratio") "sign" (sp1 (fs_fsgn K)) [] := by
  obtain ⟨fd, F⟩ := L.d_Ratio_sign
  exact ⟨⟨_, fd, ["self"], [], L.cl_Ratio, L.me_Ratio_sign, ok_Ratio_sign L F, F.bindsN (fun _ _ _ _ _ _ us hl => match us, hl with | [_], _ => rfl), .nil⟩⟩
theorem ok_NegativeD_initD (L : Lw K mg) {fd : FuncData} (F : FunD K "__init__" "Negative.__init__" (defArgs s_NegativeD_initD) (defBody s_NegativeD_initD) (defScope s_NegativeD_initD) (df_NegativeD_initD.dvs K) (df_NegativeD_initD.kws K) (He.fAd K ("Negative", some "__init__")) fd) : FnOk P w K mg base (L2N.CX P w) 1 (He.fAd K ("Negative", some "__init__")) fd (["self", "ratio"] : List Str) (sp2 (fs_ex1 K "Negative" "ratio")) := by
  refine FunD.ok F sc_NegativeD_initD len2 (fun cdv A outer s H vs Q E hr h => ?_)
  obtain ⟨a, b, rfl, h⟩ := h
  refine ⟨_, (pss_one (ps_ost (pv 0) (pv 1))), ?_⟩
  obtain ⟨e, H0, rfl, rfl, h0, k⟩ := h
  exact run_ex1 (L.ox_Negative).1 L.na_Negative_ratio h0 rfl rfl k
theorem c_NegativeD_initD (L : Lw K mg) : MakX P w K mg base 1 "Negative" (He.ga K "Negative") (sp2 (fs_ex1 K "Negative" "ratio")) := by
  obtain ⟨fd, F⟩ := L.d_NegativeD_initD
  exact ⟨⟨_, fd, ["self", "ratio"], (L.ox_Negative).1, (L.ox_Negative).2.1, (L.ox_Negative).2.2, ok_NegativeD_initD L F, L.g_Negative, F.bindsN (fun _ _ _ _ _ _ us hl => match us, hl with | [_, _], _ => rfl)⟩⟩
theorem ok_TooHeavyD_initD (L : Lw K mg) {fd : FuncData} (F : FunD K "__init__" "TooHeavy.__init__" (defArgs s_TooHeavyD_initD) (defBody s_TooHeavyD_initD) (defScope s_TooHeavyD_initD) (df_TooHeavyD_initD.dvs K) (df_TooHeavyD_initD.kws K) (He.fAd K ("TooHeavy", some "__init__")) fd) : FnOk P w K mg base (L2N.CX P w) 1 (He.fAd K ("TooHeavy", some "__init__")) fd (["self", "work"] : List Str) (sp2 (fs_ex1 K "TooHeavy" "work")) := by
  refine FunD.ok F sc_TooHeavyD_initD len2 (fun cdv A outer s H vs Q E hr h => ?_)
  obtain ⟨a, b, rfl, h⟩ := h
  refine ⟨_, (pss_one (ps_ost (pv 0) (pv 1))), ?_⟩
  obtain ⟨e, H0, rfl, rfl, h0, k⟩ := h
  exact run_ex1 (L.ox_TooHeavy).1 L.na_TooHeavy_work h0 rfl rfl k
theorem c_TooHeavyD_initD (L : Lw K mg) : MakX P w K mg base 1 "TooHeavy" (He.ga K "TooHeavy") (sp2 (fs_ex1 K "TooHeavy" "work")) := by
  obtain ⟨fd, F⟩ := L.d_TooHeavyD_initD
  exact ⟨⟨_, fd, ["self", "work"], (L.ox_TooHeavy).1, (L.ox_TooHeavy).2.1, (L.ox_TooHeavy).2.2, ok_TooHeavyD_initD L F, L.g_TooHeavy, F.bindsN (fun _ _ _ _ _ _ us hl => match us, hl with | [_, _], _ => rfl)⟩⟩
theorem ok_whole_power (L : Lw K mg) {fd : FuncData} (F : FunD K "whole_power" "whole_power" (defArgs s_whole_power) (defBody s_whole_power) (defScope s_whole_power) (df_whole_power.dvs K) (df_whole_power.kws K) (He.fAd K ("whole_power", none)) fd) : FnOk P w K mg base (L2N.CX P w) 1 (He.fAd K ("whole_power", none)) fd (["number", "exponent"] : List Str) (sp2 fs_wp) := by
  refine FunD.ok F sc_whole_power len2 (fun cdv A outer s H vs Q E hr h => ?_)
  obtain ⟨x, y, rfl, h⟩ := h
  refine ⟨_, (pss_cons (ps_set (i := 2) sc_whole_power.nd rfl (by first | exact Or.inl rfl | exact Or.inr rfl) pe_int)
    (pss_cons (ps_for (passes_of rfl) rfl (pi_range3 (by rfl) L.f_range (pa_cons (pe_op o_sub (pe_bits (pv 1)) pe_int) (pa_cons (pe_un o_neg pe_int) (pa_cons (pe_un o_neg pe_int) pa_nil)))) (pg_name (i := 3) sc_whole_power.nd rfl (by first | exact Or.inl rfl | exact Or.inr rfl)) (pss_cons (ps_set (i := 2) sc_whole_power.nd rfl (by first | exact Or.inl rfl | exact Or.inr rfl) (pe_op o_rep (pv 2) (pv 2)))
    (pss_one (ps_if (pt_cmpR op_eq (pe_op o_mod (pe_op op_shr (pv 1) (pv 3)) pe_int) pe_int (nomark _)) (pss_one (ps_set (i := 2) sc_whole_power.nd rfl (by first | exact Or.inl rfl | exact Or.inr rfl) (pe_op o_rep (pv 2) (pv 0)))) pss_nil))))
    (pss_one (ps_ret (pv 2))))), ?_⟩
  obtain ⟨b, e, B, rfl, rfl, hb, he, hB, k⟩ := h
  walk_at "zz"
  have hm := nbits (n := e)
  have hm2 : Builtin.Int.intBits (e : Int) ≤ 17 := nbits_le (Nat.lt_of_le_of_lt he (by decide))
  generalize Builtin.Int.intBits (e : Int) = m at *
  refine z_foD (n := m) (by omega) (fun t σ' H' => ∃ (p : Int) (x3 : Option V), σ' = [some (.int b), some (.int (e : Int)), some (.int p), x3] ∧ H = H' ∧ p = b ^ (e / 2 ^ (m - t))) ⟨1, _, rfl, rfl, ?_⟩ ?_ ?_
  · rw [Nat.sub_zero, Nat.div_eq_of_lt hm, Int.pow_zero]
  · rintro t σ' H' ht ⟨p, x3, rfl, rfl, hp⟩
    have e1 : 2 ^ (m - t) = 2 * 2 ^ (m - t - 1) := by
      rw [← Nat.pow_succ']
      congr 1
      omega
    rw [e1, half_div] at hp
    obtain ⟨q, hq⟩ : ∃ q, q = e / 2 ^ (m - t - 1) := ⟨_, rfl⟩
    rw [← hq] at hp
    have q2 : q ≤ e := by
      rw [hq]
      exact Nat.div_le_self _ _
    have hbp : Bits (B * (q / 2) + 1) p := by
      rw [hp]
      exact bpow hb _
    have sz : B * (q / 2) + 1 + (B * (q / 2) + 1) ≤ 800000 := by
      have h1 : B * (q / 2) + B * (q / 2) = B * (q / 2 + q / 2) := by rw [Nat.mul_add]
      have h2 : B * (q / 2 + q / 2) ≤ B * e := Nat.mul_le_mul_left _ (by omega)
      omega
    have hd : (e : Int) / 2 ^ ((m : Int) - 1 - t).toNat = (q : Int) := by
      rw [show ((m : Int) - 1 - t).toNat = m - t - 1 by omega, hq, Int.natCast_ediv, Int.natCast_pow]
      rfl
    obtain ⟨b1, b2⟩ := pow_bit (b := b) (q := q)
    have ep : p * p = b ^ (q - q % 2) := by
      rw [hp]
      exact b1
    have em : e / 2 ^ (m - (t + 1)) = q := by rw [← Nat.sub_sub, ← hq]
    walk_at "zz"
    refine z_repU0 hbp hbp (by omega) ?_
    walk_at "zz"
    refine z_shrP (by omega) ?_
    rw [hd]
    walk_at "zz"
    refine z_mod (by decide) ?_
    walk_at "zz"
    have hpp : Bits (B * (q / 2) + 1 + (B * (q / 2) + 1)) (p * p) := hbp.mul hbp
    refine z_d2 (fun c => ?_) (fun c => ?_)
    · have c' : q % 2 = 1 := by omega
      walk_at "zz"
      refine z_repU0 hpp hb ?_ ?_
      · have h1 : B * (q / 2) + B * (q / 2) + B = B * (q / 2 + q / 2 + 1) := by rw [Nat.mul_add, Nat.mul_add, Nat.mul_one]
        have h2 : B * (q / 2 + q / 2 + 1) ≤ B * e := Nat.mul_le_mul_left _ (by omega)
        omega
      walk_at "zz"
      exact ⟨_, _, rfl, rfl, by rw [ep, b2 c', em]⟩
    · walk_at "zz"
      exact ⟨_, _, rfl, rfl, by rw [ep, em, show q - q % 2 = q by omega]⟩
  · rintro σ' H' ⟨p, x3, rfl, rfl, hp⟩
    rw [Nat.sub_self, Nat.pow_zero, Nat.div_one] at hp
    walk_at "zz"
    rw [hp]
    exact k
theorem c_whole_power (L : Lw K mg) : Cal P w K mg base 1 "whole_power" (sp2 fs_wp) [] := by
  obtain ⟨fd, F⟩ := L.d_whole_power
  exact ⟨⟨_, fd, ["number", "exponent"], [], ok_whole_power L F, L.g_whole_power, F.kp, F.bindsN (fun _ _ _ _ _ _ us hl => match us, hl with | [_, _], _ => rfl), .nil⟩⟩
theorem ok_whole_root (L : Lw K mg) {fd : FuncData} (F : FunD K "whole_root" "whole_root" (defArgs s_whole_root) (defBody s_whole_root) (defScope s_whole_root) (df_whole_root.dvs K) (df_whole_root.kws K) (He.fAd K ("whole_root", none)) fd) : FnOk P w K mg base (L2N.CX P w) 2 (He.fAd K ("whole_root", none)) fd (["number", "k"] : List Str) (sp2 fs_wr) := by
  refine FunD.ok F sc_whole_root len2 (fun cdv A outer s H vs Q E hr h => ?_)
  obtain ⟨x, y, rfl, h⟩ := h
  refine ⟨_, (pss_cons (ps_if (pt_cmpR op_eq (pv 0) pe_int (nomark _)) (pss_one (ps_ret pe_int)) pss_nil)
    (pss_cons (ps_par (i := 2) (j := 3) (by rfl) sc_whole_root.nd rfl rfl (by decide) rfl rfl (pa_cons pe_int (pa_cons (pe_op op_shl pe_int (pe_op o_cat (pe_op o_div2 (pe_bits (pv 0)) (pv 1)) pe_int)) pa_nil)) (by rfl))
    (pss_cons (ps_while (passes_of rfl) (PW.pt (pw_and (pt_cmpR o_gt (pe_op o_sub (pv 3) (pv 2)) pe_int (nomark _)) (pw_and1 (pt_cmpR o_gt (pe_op o_rep (pe_op o_sub (pv 3) (pv 2)) (pv 1)) (pv 3) (nomark _))))) (pss_cons (ps_set (i := 4) sc_whole_root.nd rfl (by first | exact Or.inl rfl | exact Or.inr rfl) (pe_op o_div2 (pe_op o_cat (pv 2) (pv 3)) pe_int))
    (pss_one (ps_if (pt_cmpR o_gt (pe_c (c_whole_power (K := K) L) hr (by decide) (L2N.takes_of rfl rfl rfl rfl) (pa_cons (pv 4) (pa_cons (pv 1) pa_nil))) (pv 0) (nomark _)) (pss_one (ps_set (i := 3) sc_whole_root.nd rfl (by first | exact Or.inl rfl | exact Or.inr rfl) (pv 4))) (pss_one (ps_set (i := 2) sc_whole_root.nd rfl (by first | exact Or.inl rfl | exact Or.inr rfl) (pv 4)))))))
    (pss_cons (ps_set (i := 5) sc_whole_root.nd rfl (by first | exact Or.inl rfl | exact Or.inr rfl) (pe_op o_div2 (pe_op o_cat (pe_op o_rep (pe_op o_sub (pv 1) pe_int) (pv 3)) (pe_op o_div2 (pv 0) (pe_c (c_whole_power (K := K) L) hr (by decide) (L2N.takes_of rfl rfl rfl rfl) (pa_cons (pv 3) (pa_cons (pe_op o_sub (pv 1) pe_int) pa_nil))))) (pv 1)))
    (pss_cons (ps_while (passes_of rfl) (pt_cmpR o_lt (pv 5) (pv 3) (nomark _)) (pss_cons (ps_set (i := 3) sc_whole_root.nd rfl (by first | exact Or.inl rfl | exact Or.inr rfl) (pv 5))
    (pss_one (ps_set (i := 5) sc_whole_root.nd rfl (by first | exact Or.inl rfl | exact Or.inr rfl) (pe_op o_div2 (pe_op o_cat (pe_op o_rep (pe_op o_sub (pv 1) pe_int) (pv 3)) (pe_op o_div2 (pv 0) (pe_c (c_whole_power (K := K) L) hr (by decide) (L2N.takes_of rfl rfl rfl rfl) (pa_cons (pv 3) (pa_cons (pe_op o_sub (pv 1) pe_int) pa_nil))))) (pv 1))))))
    (pss_one (ps_ret (pv 3)))))))), ?_⟩
  rw [show L2.start (["number", "k", "low", "root", "middle", "lesser"] : List Str) [x, y] = [some x, some y, none, none, none, none] from rfl]
  obtain ⟨N, K, b, rfl, rfl, hN, hK, hb, hb2, q⟩ := h
  try dsimp only [List.set]
  walk_at "zz"
  refine z_d2 (fun c0 => ?_) (fun c0 => ?_)
  · try dsimp only [List.set]
    walk_at "zz"
    have N0 : N = 0 := by omega
    subst N0
    refine q 0 ⟨by decide, ?_, ?_⟩ ?_
    · rw [show ((0 : Nat) : Int) = 0 from rfl, Int.zero_pow (by omega)]
      exact Int.le_refl _
    · rw [show ((0 : Nat) : Int) + 1 = 1 from rfl, Int.one_pow]
      decide
    · exact Int.pow_pos (show (0 : Int) < 2 by decide)
  try dsimp only [List.set]
  walk_at "zz"
  have hm := nbits (n := N)
  have hmb : Builtin.Int.intBits (N : Int) ≤ b := nbits_le hN
  generalize Builtin.Int.intBits (N : Int) = m at *
  have hd0 : (m : Int) / ((K + 1 : Nat) : Int) = ((m / (K + 1) : Nat) : Int) := (Int.natCast_ediv _ _).symm
  rw [hd0]
  have hN2 := root_hi (K := K) hm
  have hcb := pow_bound (K := K) hmb
  have hdm : m / (K + 1) ≤ m := Nat.div_le_self _ _
  have hdd : m / (K + 1) ≤ 1000 := Nat.div_le_of_le_mul (by rw [Nat.mul_comm]; omega)
  have hde := Nat.div_mul_le_self m (K + 1)
  clear hd0
  generalize m / (K + 1) = d at *
  refine z_shlP ⟨by omega, by omega, by decide⟩ ?_
  rw [show ((d : Int) + 1).toNat = d + 1 by omega, Int.one_mul]
  have hc : d + 1 ≤ 1001 := by omega
  have sz : (d + 1 + 1) * (K + 1) + 2 ≤ 800000 := by
    rw [Nat.add_mul, Nat.add_mul]
    omega
  generalize d + 1 = c at *
  have c2 : (0 : Int) < 2 ^ c := Int.pow_pos (by decide)
  have hN0 : (0 : Int) < N := by omega
  try dsimp only [List.set]
  walk_at "zz"
  refine z_while (fun v σ' H' => ∃ (lo ro : Int) (x4 : Option V), σ' = [some (.int (N : Int)), some (.int ((K + 1 : Nat) : Int)), some (.int lo), some (.int ro), x4, none] ∧ H = H' ∧ 0 ≤ lo ∧ lo < ro ∧ (N : Int) < ro ^ (K + 1) ∧ ro ≤ 2 ^ c ∧ v = (ro - lo).toNat) _ ⟨0, 2 ^ c, none, rfl, rfl, Int.le_refl _, c2, hN2, Int.le_refl _, rfl⟩ ?_
  rintro v σ' H' ⟨lo, ro, x4, rfl, rfl, l0, lr, hr, rc, rfl⟩
  try dsimp only [List.set]
  walk_at "zz"
  refine z_d2 (fun c3 => ?_) (fun c3 => ?_)
  · try dsimp only [List.set]
    walk_at "zz"
    refine z_d2 (fun c4 => ?_) (fun c4 => ?_)
    · refine ⟨_, fun _ _ h => h, ?_⟩
      try dsimp only [List.set]
      walk_at "zz"
      obtain ⟨mi, hmi⟩ : ∃ mi, mi = (lo + ro) / 2 := ⟨_, rfl⟩
      rw [← hmi]
      have m1 : lo < mi := by omega
      have m2 : mi < ro := by omega
      refine u_wp (B := c + 1) (bits_of_le (by omega) (by omega)) (by omega) sz ?_
      try dsimp only [List.set]
      walk_at "zz"
      refine z_d2 (fun c5 => ?_) (fun c5 => ?_)
      · try dsimp only [List.set]
        walk_at "zz"
        exact ⟨(mi - lo).toNat, by omega, lo, mi, _, rfl, rfl, l0, m1, c5, by omega, rfl⟩
      · try dsimp only [List.set]
        walk_at "zz"
        exact ⟨(ro - mi).toNat, by omega, mi, ro, _, rfl, rfl, by omega, m2, hr, rc, rfl⟩
    · try dsimp only [List.set]
      walk_at "zz"
      have low : ∀ s, 0 ≤ s → s ^ (K + 1) ≤ (N : Int) → s ≤ ro := fun s s0 h => by
        have := S02.lt_of_pow (k := K + 1) (by omega) (Int.lt_of_le_of_lt h hr) s0
        omega
      have r0 : 0 < ro := by omega
      rw [show ((K + 1 : Nat) : Int) - 1 = (K : Int) by omega]
      refine u_wp (B := c + 1) (bits_of_le (by omega) rc) (by omega) (Nat.le_trans (Nat.add_le_add_right (Nat.mul_le_mul_left _ (Nat.le_succ K)) 2) sz) ?_
      try dsimp only [List.set]
      walk_at "zz"
      refine z_div2B (cdiv r0 (Int.not_le.mp fun z => by have := low _ (by omega) z; omega) hK rc hc) ?_
      try dsimp only [List.set]
      walk_at "zz"
      refine z_while (fun v σ' H' => ∃ ro : Int, σ' = [some (.int (N : Int)), some (.int ((K + 1 : Nat) : Int)), some (.int lo), some (.int ro), x4, some (.int (nx2 N ro K))] ∧ H = H' ∧ 0 < ro ∧ (∀ s, 0 ≤ s → s ^ (K + 1) ≤ (N : Int) → s ≤ ro) ∧ ro ≤ 2 ^ c ∧ v = ro.toNat) ro.toNat ⟨ro, rfl, rfl, r0, low, rc, rfl⟩ ?_
      rintro v σ' H' ⟨ro, rfl, rfl, r0, low, rc, rfl⟩
      obtain ⟨n0, nlow⟩ := S02.newton_step r0 hN0 low
      rw [← nx2_eq] at n0 nlow
      try dsimp only [List.set]
      walk_at "zz"
      refine z_d2 (fun c5 => ?_) (fun c5 => ?_)
      · refine ⟨_, fun _ _ h => h, ?_⟩
        have nc : nx2 N ro K ≤ 2 ^ c := by omega
        try dsimp only [List.set]
        walk_at "zz"
        rw [show ((K + 1 : Nat) : Int) - 1 = (K : Int) by omega]
        refine u_wp (B := c + 1) (bits_of_le (by omega) nc) (by omega) (Nat.le_trans (Nat.add_le_add_right (Nat.mul_le_mul_left _ (Nat.le_succ K)) 2) sz) ?_
        try dsimp only [List.set]
        walk_at "zz"
        refine z_div2B (cdiv n0 (Int.not_le.mp fun z => by have := nlow _ (by omega) z; omega) hK nc hc) ?_
        try dsimp only [List.set]
        walk_at "zz"
        exact ⟨(nx2 N ro K).toNat, by omega, nx2 N ro K, rfl, rfl, n0, nlow, nc, rfl⟩
      · try dsimp only [List.set]
        walk_at "zz"
        obtain ⟨q0, q1, q2⟩ := S02.newton_end r0 hN0 low (by rw [← nx2_eq]; exact c5)
        obtain ⟨r, rfl⟩ : ∃ r : Nat, (r : Int) = ro := ⟨ro.toNat, by omega⟩
        refine q r ⟨q0, q1, q2⟩ ?_
        refine Int.lt_of_lt_of_le ?_ hcb
        exact S02.lt_of_pow (k := K + 1) (S02.pow_nn (by decide) _) (Int.lt_of_le_of_lt q1 hN2) q0
  · try dsimp only [List.set]
    walk_at "zz"
    have low : ∀ s, 0 ≤ s → s ^ (K + 1) ≤ (N : Int) → s ≤ ro := fun s s0 h => by
      have := S02.lt_of_pow (k := K + 1) (by omega) (Int.lt_of_le_of_lt h hr) s0
      omega
    have r0 : 0 < ro := by omega
    rw [show ((K + 1 : Nat) : Int) - 1 = (K : Int) by omega]
    refine u_wp (B := c + 1) (bits_of_le (by omega) rc) (by omega) (Nat.le_trans (Nat.add_le_add_right (Nat.mul_le_mul_left _ (Nat.le_succ K)) 2) sz) ?_
    try dsimp only [List.set]
    walk_at "zz"
    refine z_div2B (cdiv r0 (Int.not_le.mp fun z => by have := low _ (by omega) z; omega) hK rc hc) ?_
    try dsimp only [List.set]
    walk_at "zz"
    refine z_while (fun v σ' H' => ∃ ro : Int, σ' = [some (.int (N : Int)), some (.int ((K + 1 : Nat) : Int)), some (.int lo), some (.int ro), x4, some (.int (nx2 N ro K))] ∧ H = H' ∧ 0 < ro ∧ (∀ s, 0 ≤ s → s ^ (K + 1) ≤ (N : Int) → s ≤ ro) ∧ ro ≤ 2 ^ c ∧ v = ro.toNat) ro.toNat ⟨ro, rfl, rfl, r0, low, rc, rfl⟩ ?_
    rintro v σ' H' ⟨ro, rfl, rfl, r0, low, rc, rfl⟩
    obtain ⟨n0, nlow⟩ := S02.newton_step r0 hN0 low
    rw [← nx2_eq] at n0 nlow
    try dsimp only [List.set]
    walk_at "zz"
    refine z_d2 (fun c5 => ?_) (fun c5 => ?_)
    · refine ⟨_, fun _ _ h => h, ?_⟩
      have nc : nx2 N ro K ≤ 2 ^ c := by omega
      try dsimp only [List.set]
      walk_at "zz"
      rw [show ((K + 1 : Nat) : Int) - 1 = (K : Int) by omega]
      refine u_wp (B := c + 1) (bits_of_le (by omega) nc) (by omega) (Nat.le_trans (Nat.add_le_add_right (Nat.mul_le_mul_left _ (Nat.le_succ K)) 2) sz) ?_
      try dsimp only [List.set]
      walk_at "zz"
      refine z_div2B (cdiv n0 (Int.not_le.mp fun z => by have := nlow _ (by omega) z; omega) hK nc hc) ?_
      try dsimp only [List.set]
      walk_at "zz"
      exact ⟨(nx2 N ro K).toNat, by omega, nx2 N ro K, rfl, rfl, n0, nlow, nc, rfl⟩
    · try dsimp only [List.set]
      walk_at "zz"
      obtain ⟨q0, q1, q2⟩ := S02.newton_end r0 hN0 low (by rw [← nx2_eq]; exact c5)
      obtain ⟨r, rfl⟩ : ∃ r : Nat, (r : Int) = ro := ⟨ro.toNat, by omega⟩
      refine q r ⟨q0, q1, q2⟩ ?_
      refine Int.lt_of_lt_of_le ?_ hcb
      exact S02.lt_of_pow (k := K + 1) (S02.pow_nn (by decide) _) (Int.lt_of_le_of_lt q1 hN2) q0
theorem c_whole_root (L : Lw K mg) : Cal P w K mg base 2 "whole_root" (sp2 fs_wr) [] := by
  obtain ⟨fd, F⟩ := L.d_whole_root
  exact ⟨⟨_, fd, ["number", "k"], [], ok_whole_root L F, L.g_whole_root, F.kp, F.bindsN (fun _ _ _ _ _ _ us hl => match us, hl with | [_, _], _ => rfl), .nil⟩⟩
end
end T
set_option maxHeartbeats 4000000
namespace T
open PySem PySem.Spec PyProof.Rows L2 Z
theorem fdiv_eq {t b T w G : Int} (b0 : 0 < b) (w0 : 0 < w) (e : t * w = T * b) : t * G / b = T * G / w := by
  have h1 := Int.ediv_mul_le (t * G) (show b ≠ 0 by omega)
  have h2 := Int.lt_ediv_add_one_mul_self (t * G) b0
  generalize t * G / b = q at *
  have e2 : t * G * w = T * G * b := by
    calc t * G * w = t * w * G := by grind
      _ = T * b * G := by rw [e]
      _ = T * G * b := by grind
  refine (Int.le_antisymm ?_ ?_)
  · refine (Int.le_ediv_iff_mul_le w0).mpr ?_
    refine Int.le_of_mul_le_mul_right ?_ b0
    have := Int.mul_le_mul_of_nonneg_right h1 (show 0 ≤ w by omega)
    rw [← e2]
    calc q * w * b = q * b * w := by grind
      _ ≤ t * G * w := this
  · refine Int.le_of_lt_add_one (Int.ediv_lt_of_lt_mul w0 ?_)
    refine Int.lt_of_mul_lt_mul_right ?_ (show 0 ≤ b by omega)
    have := Int.mul_lt_mul_of_pos_right h2 w0
    rw [← e2]
    calc t * G * w < (q + 1) * b * w := this
      _ = (q + 1) * w * b := by grind
theorem z_p60 {H : Hp} {Q : VK} (q : Q (.int 1000000000000000000000000000000000000000000000000000000000000) H) : zPow (.int 10) (.int 60) H Q := z_pow ⟨by decide, by decide, by decide⟩ q
theorem rt_over {M w r : Int} {k : Nat} (w0 : 0 < w) (h : S02.Rt (M / w) r k) : r ^ k * w ≤ M ∧ M < (r + 1) ^ k * w := by
  obtain ⟨h0, h1, h2⟩ := h
  exact ⟨(Int.le_ediv_iff_mul_le w0).mp h1, Int.lt_mul_of_ediv_lt w0 h2⟩
def fs_rb (K : Frag) : F3 := fun x y z H Q E => ∃ (p : Addr) (T w k g : Int) (B G : Nat), x = .ref p ∧ y = .int k ∧ z = .int g ∧ Fr K H p T w ∧ 0 < w ∧
  (T < 0 → ∀ d H', Same H H' → H' d = some (.xd [("ratio", .ref p)]) → E (.ref (He.ga K "Negative")) (some d) H') ∧
  (0 ≤ T → ¬ (1 ≤ k ∧ k ≤ 5000) → ∀ d H', Same H H' → H' d = some (.xd [("value", .int k)]) → E (.ref (He.ga K "OutOfBounds")) (some d) H') ∧
  (0 ≤ T → 1 ≤ k → k ≤ 5000 → ¬ (1 ≤ g ∧ g ≤ 1000000000000000000000000000000000000000000000000000000000000) → ∀ d H', Same H H' → H' d = some (.xd [("value", .int g)]) → E (.ref (He.ga K "OutOfBounds")) (some d) H') ∧
  (0 ≤ T → 1 ≤ k → k ≤ 5000 → 1 ≤ g → g ≤ 1000000000000000000000000000000000000000000000000000000000000 → Bits B T ∧ Bits B w ∧ B ≤ 8999 ∧ Bits G g ∧ G ≤ 8000 ∧ B + (G * k.toNat + 1) ≤ 300000 ∧ B + (G * k.toNat + 1) ≤ 1000 * k.toNat ∧
    ∀ s (r : Nat) H', Same H H' → Fr K H' s r g → (r : Int) ^ k.toNat * w ≤ T * g ^ k.toNat → T * g ^ k.toNat < ((r : Int) + 1) ^ k.toNat * w → (r : Int) < 2 ^ ((B + (G * k.toNat + 1)) / k.toNat + 1) → Q (.ref s) H')
def fs_er (K : Frag) : F2 := fun x y H Q E => ∃ (p : Addr) (t b k : Int) (B : Nat), x = .ref p ∧ y = .int k ∧ IsR K H p t b ∧ 0 < b ∧ Int.gcd t b = 1 ∧
  (t < 0 → ∀ d H', Same H H' → H' d = some (.xd [("ratio", .ref p)]) → E (.ref (He.ga K "Negative")) (some d) H') ∧
  (0 ≤ t → ¬ (1 ≤ k ∧ k ≤ 5000) → ∀ d H', Same H H' → H' d = some (.xd [("value", .int k)]) → E (.ref (He.ga K "OutOfBounds")) (some d) H') ∧
  (0 ≤ t → 1 ≤ k → k ≤ 5000 → Bits B t ∧ Bits B b ∧ B ≤ 300000 ∧ B ≤ 1000 * k.toNat ∧ ((¬ ∃ r s : Nat, (r : Int) ^ k.toNat = t ∧ (s : Int) ^ k.toNat = b) → Q .non H) ∧
    ∀ z (r s : Nat) H', Same H H' → (r : Int) ^ k.toNat = t → (s : Int) ^ k.toNat = b → Fr K H' z r s → Q (.ref z) H')
theorem rt_pow {r n : Nat} {k : Nat} (h : (r : Int) ^ k = n) : k ≠ 0 → S02.Rt n r k := fun hk => ⟨by omega, by omega, by
  obtain ⟨K, rfl⟩ : ∃ K, k = K + 1 := ⟨k - 1, by omega⟩
  rw [← h]
  exact S02.pow_lt (by omega) (by omega) K⟩
local macro_rules | `(tactic| walk_at "up") => `(tactic| first
  | assumption
  | (refine' IsR.mono (by assumption) ?zup; case zup => walk_at "up")
  | (refine' IsE.mono (by assumption) ?zup; case zup => walk_at "up")
  | (refine' Same.at (by assumption) ?zup; case zup => walk_at "up")
  | (refine' SqL.of ?zup; case zup => walk_at "up")
  | (refine' L2.Same.seq (by assumption) ?zup; case zup => walk_at "up"))
local macro_rules | `(tactic| walk_at "z") => `(tactic| first
  | ((with_reducible refine' z_var ?zvh ?_); (case zvh => exact rfl))
  | with_reducible refine z_c ?_
  | with_reducible refine z_cons ?_
  | with_reducible refine z_nil ?_
  | with_reducible refine z_op ?_
  | with_reducible refine z_nx ?_
  | with_reducible refine z_seq ?_
  | with_reducible refine z_asg ?_
  | with_reducible refine z_asgG ?_
  | with_reducible refine z_call ?_
  | with_reducible refine z_sq0 ?_
  | with_reducible refine z_sq1 ?_
  | with_reducible refine z_ifS ?_
  | with_reducible refine z_test ?_
  | with_reducible refine z_tb ?_
  | with_reducible refine z_bl ?_
  | with_reducible refine z_blI ?_
  | with_reducible refine z_ret ?_
  | with_reducible refine z_rt ?_
  | with_reducible refine z_T ?_
  | with_reducible refine z_F ?_
  | with_reducible refine z_add ?_
  | with_reducible refine z_sub ?_
  | with_reducible refine z_neg ?_
  | with_reducible refine z_un ?_
  | with_reducible refine z_eqI ?_
  | with_reducible refine z_neI ?_
  | with_reducible refine z_lt ?_
  | with_reducible refine z_le ?_
  | with_reducible refine z_gt ?_
  | with_reducible refine z_ge ?_
  | with_reducible refine z_not ?_
  | with_reducible refine z_and ?_
  | with_reducible refine z_or ?_
  | with_reducible refine z_andV ?_
  | with_reducible refine z_orV ?_
  | with_reducible refine z_notV ?_
  | with_reducible refine z_if ?_
  | with_reducible refine z_cb ?_
  | with_reducible refine z_int1 ?_
  | with_reducible refine z_intb ?_
  | with_reducible refine z_abs ?_
  | with_reducible refine z_gcd ?_
  | with_reducible refine z_isi_ii ?_
  | with_reducible refine z_isi_ib ?_
  | with_reducible refine z_next ?_
  | with_reducible refine z_drop ?_
  | with_reducible refine z_par ?_
  | with_reducible refine z_par2 ?_
  | with_reducible refine z_tupN ?_
  | with_reducible refine z_lstN ?_
  | ((with_reducible refine' z_nt ?zl1 ?_); (case zl1 => exact Nat.le_of_ble_eq_true rfl); intro p H' hp hs he)
  | ((with_reducible refine' z_gtup ?zl1 ?zl2 ?_); (case zl1 => walk_at "up"); (case zl2 => exact rfl))
  | with_reducible refine z_bk ?_
  | with_reducible refine z_ct ?_
  | with_reducible refine z_break ?_
  | with_reducible refine z_cont ?_
  | with_reducible refine z_retN ?_
  | with_reducible refine z_nn ?_
  | with_reducible refine z_mk ?_
  | with_reducible refine z_gn ?_
  | with_reducible refine z_gcons ?_
  | with_reducible refine z_gnil ?_
  | with_reducible refine z_mt ?_
  | with_reducible refine z_mko ?_
  | with_reducible refine z_for2 ?_
  | with_reducible refine z_ownI ?_
  | ((with_reducible refine' z_lenL ?zl1 ?_); (case zl1 => walk_at "up"))
  | ((with_reducible refine' z_ixT ?zl1 ?zl2 ?_); (case zl1 => walk_at "up"); (case zl2 => exact rfl))
  | ((with_reducible refine' z_mulL ?zl1 ?zl2 ?_); (case zl1 => omega); (case zl2 => omega))
  | ((with_reducible refine' z_mulR ?zl1 ?zl2 ?_); (case zl1 => omega); (case zl2 => omega))
  | ((with_reducible refine' z_divS ?zl1 ?zl2 ?_); (case zl1 => omega); (case zl2 => omega))
  | ((with_reducible refine' z_mulW ?zl1 ?zl2 ?zl3 ?zl4 ?_); (case zl1 => omega); (case zl2 => omega); (case zl3 => omega); (case zl4 => omega))
  | ((with_reducible refine' z_divW ?zl1 ?zl2 ?_); (case zl1 => omega); (case zl2 => omega)))
local macro_rules | `(tactic| walk_at "zz") => `(tactic| repeat (walk_at "z"))
local macro_rules | `(tactic| walk_at "z") => `(tactic| with_reducible refine z_lstN ?_)
local macro_rules | `(tactic| walk_at "z") => `(tactic| with_reducible refine z_p6 ?_)
local macro_rules | `(tactic| walk_at "z") => `(tactic| with_reducible refine z_p12 ?_)
local macro_rules | `(tactic| walk_at "z") => `(tactic| with_reducible refine z_p13 ?_)
local macro_rules | `(tactic| walk_at "z") => `(tactic| with_reducible refine z_calln ?_)
local macro_rules | `(tactic| walk_at "z") => `(tactic| with_reducible refine z_xfS ?_)
local macro_rules | `(tactic| walk_at "z") => `(tactic| with_reducible refine z_lcS ?_)
local macro_rules | `(tactic| walk_at "z") => `(tactic| with_reducible refine z_lcRS ?_)
local macro_rules | `(tactic| walk_at "z") => `(tactic| with_reducible refine z_lcZS ?_)
local macro_rules | `(tactic| walk_at "z") => `(tactic| with_reducible refine z_foS ?_)
local macro_rules | `(tactic| walk_at "z") => `(tactic| with_reducible refine z_for1 ?_)
local macro_rules | `(tactic| walk_at "z") => `(tactic| with_reducible refine z_tsl ?_)
local macro_rules | `(tactic| walk_at "z") => `(tactic| with_reducible refine z_np ?_)
local macro_rules | `(tactic| walk_at "z") => `(tactic| with_reducible refine z_pt ?_)
local macro_rules | `(tactic| walk_at "z") => `(tactic| with_reducible refine z_pti ?_)
local macro_rules | `(tactic| walk_at "z") => `(tactic| with_reducible refine z_catI ?_)
local macro_rules | `(tactic| walk_at "z") => `(tactic| with_reducible refine z_isNI ?_)
local macro_rules | `(tactic| walk_at "z") => `(tactic| with_reducible refine z_isNN ?_)
local macro_rules | `(tactic| walk_at "z") => `(tactic| with_reducible refine z_notNI ?_)
local macro_rules | `(tactic| walk_at "z") => `(tactic| with_reducible refine z_notNN ?_)
local macro_rules | `(tactic| walk_at "z") => `(tactic| with_reducible refine z_gsub ?_)
local macro_rules | `(tactic| walk_at "z") => `(tactic| with_reducible refine z_isNb ?_)
local macro_rules | `(tactic| walk_at "z") => `(tactic| with_reducible refine z_notNb ?_)
local macro_rules | `(tactic| walk_at "z") => `(tactic| ((with_reducible refine' z_nlR ?zl1 ?_); (case zl1 => exact Nat.le_of_ble_eq_true rfl); intro p H' hp hs he))
local macro_rules | `(tactic| walk_at "z") => `(tactic| ((with_reducible refine' z_repR ?zl1 ?zl2 ?_); (case zl1 => omega); (case zl2 => omega)))
local macro_rules | `(tactic| walk_at "z") => `(tactic| ((with_reducible refine' z_repL ?zl1 ?zl2 ?_); (case zl1 => omega); (case zl2 => omega)))
local macro_rules | `(tactic| walk_at "z") => `(tactic| ((with_reducible refine' z_lenLst ?zl1 ?_); (case zl1 => walk_at "up")))
local macro_rules | `(tactic| walk_at "z") => `(tactic| ((with_reducible refine' z_cat ?zl1 ?zl2 ?zl3 ?_); (case zl1 => walk_at "up"); (case zl2 => walk_at "up"); (case zl3 => (simp only [List.length_map, List.length_cons, List.length_nil, List.length_append, List.length_replicate]; omega)); intro p H' hp hs he))
local macro_rules | `(tactic| walk_at "z") => `(tactic| with_reducible refine z_sfl ?_)
local macro_rules | `(tactic| walk_at "z") => `(tactic| with_reducible refine z_lcES ?_)
local macro_rules | `(tactic| walk_at "z") => `(tactic| with_reducible refine z_lcMS ?_)
local macro_rules | `(tactic| walk_at "z") => `(tactic| with_reducible refine z_foES ?_)
local macro_rules | `(tactic| walk_at "z") => `(tactic| with_reducible refine z_fo3S ?_)
local macro_rules | `(tactic| walk_at "z") => `(tactic| with_reducible refine z_sta ?_)
local macro_rules | `(tactic| walk_at "z") => `(tactic| with_reducible refine z_sta1 ?_)
local macro_rules | `(tactic| walk_at "z") => `(tactic| with_reducible refine z_lcTS ?_)
local macro_rules | `(tactic| walk_at "z") => `(tactic| with_reducible refine z_foTS ?_)
local macro_rules | `(tactic| walk_at "z") => `(tactic| with_reducible refine z_revTS ?_)
local macro_rules | `(tactic| walk_at "z") => `(tactic| with_reducible refine z_max2 ?_)
local macro_rules | `(tactic| walk_at "z") => `(tactic| ((with_reducible refine' z_fldt ?zc1 ?zc2 ?zl1 ?zl2 ?_); (case zc1 => exact Lw.cl_Ratio (by assumption)); (case zc2 => exact Lw.na_Ratio_top (by assumption)); (case zl1 => exact rfl); (case zl2 => walk_at "up")))
local macro_rules | `(tactic| walk_at "z") => `(tactic| ((with_reducible refine' z_fldb ?zc1 ?zc2 ?zl1 ?zl2 ?_); (case zc1 => exact Lw.cl_Ratio (by assumption)); (case zc2 => exact Lw.na_Ratio_bottom (by assumption)); (case zl1 => exact rfl); (case zl2 => walk_at "up")))
local macro_rules | `(tactic| walk_at "z") => `(tactic| ((with_reducible refine' u_mtF ?zl1 ?_); (case zl1 => walk_at "up")))
local macro_rules | `(tactic| walk_at "z") => `(tactic| ((with_reducible refine' z_ixLst ?zl1 ?zl2 ?_); (case zl1 => walk_at "up"); (case zl2 => exact rfl)))
local macro_rules | `(tactic| walk_at "z") => `(tactic| with_reducible refine z_for3 ?_)
local macro_rules | `(tactic| walk_at "z") => `(tactic| with_reducible refine z_tbits ?_)
local macro_rules | `(tactic| walk_at "z") => `(tactic| with_reducible refine z_tbi ?_)
local macro_rules | `(tactic| walk_at "z") => `(tactic| ((with_reducible refine' z_div2S ?zl1 ?zl2 ?_); (case zl1 => omega); (case zl2 => omega)))
theorem same02c {H H1 H2 : Hp} (h : Same H1 H2) (e : Same H H1) : Same H H2 := e.trans h
local macro_rules | `(tactic| walk_at "sm") => `(tactic| first
  | assumption
  | exact fun _ _ h => h
  | (refine' same02c (by assumption) ?zsm; case zsm => walk_at "sm"))
local macro_rules | `(tactic| walk_at "up") => `(tactic| first
  | assumption
  | (with_reducible refine' IsR.mono (by assumption) ?zup; case zup => walk_at "up")
  | (with_reducible refine' Fr.mono (by assumption) ?zup; case zup => walk_at "up")
  | (with_reducible refine' Same.at (by assumption) ?zup; case zup => walk_at "up")
  | fail)
section
variable {P : Program} {w : World} {K : Frag} {mg : Str → Option Value} {base : Heap}
theorem ok_root_below (L : Lw K mg) {fd : FuncData} (F : FunD K "root_below" "root_below" (defArgs s_root_below) (defBody s_root_below) (defScope s_root_below) (df_root_below.dvs K) (df_root_below.kws K) (He.fAd K ("root_below", none)) fd) : FnOk P w K mg base (L2N.CX P w) 4 (He.fAd K ("root_below", none)) fd (["ratio", "k", "grain"] : List Str) (sp3 (fs_rb K)) := by
  refine FunD.ok F sc_root_below len3 (fun cdv A outer s H vs Q E hr h => ?_)
  obtain ⟨a, b, c, rfl, h⟩ := h
  refine ⟨_, (pss_cons (ps_if (pt_cmpR o_lt (pe_mt0 (c_Ratio_sign (K := K) L) hr (by decide) (L2N.takes_of rfl rfl rfl rfl) (pv 0)) pe_int (nomark _)) (pss_one (L2N.ps_raise rfl (L2N.takes_of rfl rfl rfl rfl) (pmk_x (c_NegativeD_initD (K := K) L) hr (by decide) passF (pa_cons (pv 0) pa_nil)))) pss_nil)
    (pss_cons (ps_expr (pe_c (c_check_number (K := K) L) hr (by decide) (L2N.takes_of rfl rfl rfl rfl) (pa_cons (pv 1) (pa_cons pe_int (pa_cons pe_int pa_nil)))))
    (pss_cons (ps_expr (pe_c (c_check_number (K := K) L) hr (by decide) (L2N.takes_of rfl rfl rfl rfl) (pa_cons (pv 2) (pa_cons pe_int (pa_cons (pe_op o_pow pe_int pe_int) pa_nil)))))
    (pss_one (ps_ret (pe_mk (c_RatioD_initD (K := K) L) hr (by decide) (L2N.takes_of rfl rfl rfl rfl) (pa_cons (pe_c (c_whole_root (K := K) L) hr (by decide) (L2N.takes_of rfl rfl rfl rfl) (pa_cons (pe_op o_div (pe_op o_rep (pe_fld (pv 0) rfl) (pe_c (c_whole_power (K := K) L) hr (by decide) (L2N.takes_of rfl rfl rfl rfl) (pa_cons (pv 2) (pa_cons (pv 1) pa_nil)))) (pe_fld (pv 0) rfl)) (pa_cons (pv 1) pa_nil))) (pa_cons (pv 2) pa_nil)))))))), ?_⟩
  rw [show L2.start (["ratio", "k", "grain"] : List Str) [a, b, c] = [some a, some b, some c] from rfl]
  obtain ⟨p, T, w, k, g, B, G, rfl, rfl, rfl, hF, w0, k1, k2, k3, k4⟩ := h
  try dsimp only [List.set]
  walk_at "zz"
  refine ⟨_, rfl, p, T, w, rfl, hF, w0, ?_⟩
  try dsimp only [List.set]
  walk_at "zz"
  refine z_d2 (fun c0 => ?_) (fun c0 => ?_)
  · have hT : T < 0 := by
      split at c0
      · assumption
      · split at c0 <;> omega
    try dsimp only [List.set]
    walk_at "zz"
    exact z_exo1 (fun d H' s hd => k1 hT d H' s hd)
  have hT : 0 ≤ T := by
    split at c0
    · omega
    · omega
  obtain ⟨t, b0, hr, b00, gg, e⟩ := id hF
  try dsimp only [List.set]
  walk_at "zz"
  refine ⟨_, _, _, rfl, k, 1, rfl, rfl, .inr ⟨5000, rfl⟩, fun z => ?_, fun z d H' s hd => k2 hT (fun y => z ⟨y.1, fun h e => by cases e; exact y.2⟩) d H' s hd⟩
  have kk := z.1
  have kk2 := z.2 5000 rfl
  try dsimp only [List.set]
  walk_at "zz"
  refine z_p60 ?_
  try dsimp only [List.set]
  walk_at "zz"
  refine ⟨_, _, _, rfl, g, 1, rfl, rfl, .inr ⟨1000000000000000000000000000000000000000000000000000000000000, rfl⟩, fun z2 => ?_, fun z2 d H' s hd => k3 hT kk kk2 (fun y => z2 ⟨y.1, fun h e => by cases e; exact y.2⟩) d H' s hd⟩
  have g1 := z2.1
  obtain ⟨bT, bw, hB, bG, hG, s1, s2, k5⟩ := k4 hT kk kk2 g1 (z2.2 _ rfl)
  obtain ⟨K', rfl⟩ : ∃ K' : Nat, k = ((K' + 1 : Nat) : Int) := ⟨k.toNat - 1, by omega⟩
  rw [Int.toNat_natCast] at s1 s2 k5
  have bits := fr_bits b00 gg w0 e bT bw
  have t0 : 0 ≤ t := by
    have := (fr_neg b00 w0 e).1
    omega
  try dsimp only [List.set]
  walk_at "zz"
  refine u_wp bG (by omega) (by omega) ?_
  have bg := bpow bG (K' + 1)
  have gp := S02.pow_nn (show 0 ≤ g by omega) (K' + 1)
  try dsimp only [List.set]
  walk_at "zz"
  refine z_repU0 bits.1 bg (by omega) ?_
  try dsimp only [List.set]
  walk_at "zz"
  refine z_div b00 (bits.2.up (Nat.le_succ B)) (Nat.succ_pos B) (by omega) ?_
  try dsimp only [List.set]
  walk_at "zz"
  have fe := fdiv_eq (G := g ^ (K' + 1)) b00 w0 e
  have n0 : 0 ≤ t * g ^ (K' + 1) / b0 := Int.ediv_nonneg (Int.mul_nonneg t0 gp) (by omega)
  have nb : Bits (B + (G * (K' + 1) + 1)) (t * g ^ (K' + 1) / b0) := (bits.1.mul bg).div
  obtain ⟨N, hN⟩ : ∃ N : Nat, (N : Int) = t * g ^ (K' + 1) / b0 := ⟨_, Int.toNat_of_nonneg n0⟩
  rw [← hN] at nb ⊢
  refine ⟨_, _, rfl, N, K', _, rfl, rfl, (by unfold Bits at nb; rwa [Int.natAbs_natCast] at nb), by omega, s1, s2, fun r hr hrb => ?_⟩
  try dsimp only [List.set]
  walk_at "zz"
  have ro := rt_over (M := T * g ^ (K' + 1)) w0 (by rw [← fe, ← hN]; exact hr)
  exact u_mkF (by omega) (bG.up (by omega)) rfl (fun s H' s' hs => k5 s r H' s' hs ro.1 ro.2 hrb)
theorem c_root_below (L : Lw K mg) : Cal P w K mg base 4 "root_below" (sp3 (fs_rb K)) [] := by
  obtain ⟨fd, F⟩ := L.d_root_below
  exact ⟨⟨_, fd, ["ratio", "k", "grain"], [], ok_root_below L F, L.g_root_below, F.kp, F.bindsN (fun _ _ _ _ _ _ us hl => match us, hl with | [_, _, _], _ => rfl), .nil⟩⟩
theorem ok_exact_root (L : Lw K mg) {fd : FuncData} (F : FunD K "exact_root" "exact_root" (defArgs s_exact_root) (defBody s_exact_root) (defScope s_exact_root) (df_exact_root.dvs K) (df_exact_root.kws K) (He.fAd K ("exact_root", none)) fd) : FnOk P w K mg base (L2N.CX P w) 4 (He.fAd K ("exact_root", none)) fd (["ratio", "k"] : List Str) (sp2 (fs_er K)) := by
  refine FunD.ok F sc_exact_root len2 (fun cdv A outer s H vs Q E hr h => ?_)
  obtain ⟨a, b, rfl, h⟩ := h
  refine ⟨_, (pss_cons (ps_if (pt_cmpR o_lt (pe_mt0 (c_Ratio_sign (K := K) L) hr (by decide) (L2N.takes_of rfl rfl rfl rfl) (pv 0)) pe_int (nomark _)) (pss_one (L2N.ps_raise rfl (L2N.takes_of rfl rfl rfl rfl) (pmk_x (c_NegativeD_initD (K := K) L) hr (by decide) passF (pa_cons (pv 0) pa_nil)))) pss_nil)
    (pss_cons (ps_expr (pe_c (c_check_number (K := K) L) hr (by decide) (L2N.takes_of rfl rfl rfl rfl) (pa_cons (pv 1) (pa_cons pe_int (pa_cons pe_int pa_nil)))))
    (pss_cons (ps_set (i := 2) sc_exact_root.nd rfl (by first | exact Or.inl rfl | exact Or.inr rfl) (pe_c (c_whole_root (K := K) L) hr (by decide) (L2N.takes_of rfl rfl rfl rfl) (pa_cons (pe_fld (pv 0) rfl) (pa_cons (pv 1) pa_nil))))
    (pss_cons (ps_set (i := 3) sc_exact_root.nd rfl (by first | exact Or.inl rfl | exact Or.inr rfl) (pe_c (c_whole_root (K := K) L) hr (by decide) (L2N.takes_of rfl rfl rfl rfl) (pa_cons (pe_fld (pv 0) rfl) (pa_cons (pv 1) pa_nil))))
    (pss_cons (ps_if (PW.pt (pw_or (pt_cmpR op_ne (pe_c (c_whole_power (K := K) L) hr (by decide) (L2N.takes_of rfl rfl rfl rfl) (pa_cons (pv 2) (pa_cons (pv 1) pa_nil))) (pe_fld (pv 0) rfl) (nomark _)) (pw_or1 (pt_cmpR op_ne (pe_c (c_whole_power (K := K) L) hr (by decide) (L2N.takes_of rfl rfl rfl rfl) (pa_cons (pv 3) (pa_cons (pv 1) pa_nil))) (pe_fld (pv 0) rfl) (nomark _))))) (pss_one (ps_ret pe_non)) pss_nil)
    (pss_one (ps_ret (pe_mk (c_RatioD_initD (K := K) L) hr (by decide) (L2N.takes_of rfl rfl rfl rfl) (pa_cons (pv 2) (pa_cons (pv 3) pa_nil)))))))))), ?_⟩
  rw [show L2.start (["ratio", "k", "top", "bottom"] : List Str) [a, b] = [some a, some b, none, none] from rfl]
  obtain ⟨p, t, b, k, B, rfl, rfl, hr, b0, gg, k1, k2, k3⟩ := h
  have hF : Fr K H p t b := ⟨t, b, hr, b0, gg, rfl⟩
  try dsimp only [List.set]
  walk_at "zz"
  refine ⟨_, rfl, p, t, b, rfl, hF, b0, ?_⟩
  try dsimp only [List.set]
  walk_at "zz"
  refine z_d2 (fun c0 => ?_) (fun c0 => ?_)
  · have hT : t < 0 := by
      split at c0
      · assumption
      · split at c0 <;> omega
    try dsimp only [List.set]
    walk_at "zz"
    exact z_exo1 (fun d H' s hd => k1 hT d H' s hd)
  have hT : 0 ≤ t := by
    split at c0
    · omega
    · omega
  try dsimp only [List.set]
  walk_at "zz"
  refine ⟨_, _, _, rfl, k, 1, rfl, rfl, .inr ⟨5000, rfl⟩, fun z => ?_, fun z d H' s hd => k2 hT (fun y => z ⟨y.1, fun h e => by cases e; exact y.2⟩) d H' s hd⟩
  have kk := z.1
  have kk2 := z.2 5000 rfl
  obtain ⟨K', hK'⟩ : ∃ K' : Nat, k.toNat = K' + 1 := ⟨k.toNat - 1, by clear k1 k2 k3; omega⟩
  have hk : k = ((K' + 1 : Nat) : Int) := by clear k1 k2 k3; omega
  obtain ⟨bt, bb, hB, hB2, q1, q2⟩ := k3 hT kk kk2
  rw [hK'] at hB2 q1 q2
  clear k1 k2 k3 hK'
  subst hk
  obtain ⟨n, rfl⟩ : ∃ n : Nat, (n : Int) = t := ⟨t.toNat, by omega⟩
  obtain ⟨m, rfl⟩ : ∃ m : Nat, (m : Int) = b := ⟨b.toNat, by omega⟩
  have nb : n < 2 ^ B := by unfold Bits at bt; rwa [Int.natAbs_natCast] at bt
  have mb : m < 2 ^ B := by unfold Bits at bb; rwa [Int.natAbs_natCast] at bb
  have dB : B / (K' + 1) ≤ 1000 := Nat.div_le_of_le_mul (by rw [Nat.mul_comm]; exact hB2)
  have sz : (B / (K' + 1) + 1 + 1) * (K' + 1) + 2 ≤ 800000 := by
    have := Nat.div_mul_le_self B (K' + 1)
    rw [Nat.add_mul, Nat.add_mul]
    omega
  try dsimp only [List.set]
  walk_at "zz"
  refine ⟨_, _, rfl, n, K', B, rfl, rfl, nb, by omega, hB, hB2, fun r hr1 hr2 => ?_⟩
  try dsimp only [List.set]
  walk_at "zz"
  refine ⟨_, _, rfl, m, K', B, rfl, rfl, mb, by omega, hB, hB2, fun s hs1 hs2 => ?_⟩
  have br : Bits (B / (K' + 1) + 1 + 1) (r : Int) := bits_of_le (by omega) (Int.le_of_lt hr2)
  have bs : Bits (B / (K' + 1) + 1 + 1) (s : Int) := bits_of_le (by omega) (Int.le_of_lt hs2)
  generalize B / (K' + 1) = D at *
  try dsimp only [List.set]
  walk_at "zz"
  refine u_wp br (by omega) sz ?_
  try dsimp only [List.set]
  walk_at "zz"
  refine z_d2 (fun c1 => ?_) (fun c1 => ?_)
  · try dsimp only [List.set]
    walk_at "zz"
    refine u_wp bs (by omega) sz ?_
    try dsimp only [List.set]
    walk_at "zz"
    refine z_d2 (fun c2 => ?_) (fun c2 => ?_)
    · try dsimp only [List.set]
      walk_at "zz"
      have s0 : 0 < s := by
        refine Nat.pos_of_ne_zero fun z => ?_
        rw [z, show ((0 : Nat) : Int) = 0 from rfl, Int.zero_pow (by omega)] at c2
        omega
      exact u_mkF (by omega) (bs.up (by omega)) rfl (fun z H' s' hz => q2 z r s H' s' c1 c2 hz)
    · try dsimp only [List.set]
      walk_at "zz"
      refine q1 fun ⟨r', s', e1, e2⟩ => c2 ?_
      have e := S02.Rt.uniq (rt_pow e2 (by omega)) hs1
      rw [← e]
      exact e2
  · try dsimp only [List.set]
    walk_at "zz"
    refine q1 fun ⟨r', s', e1, e2⟩ => c1 ?_
    have e := S02.Rt.uniq (rt_pow e1 (by omega)) hr1
    rw [← e]
    exact e1
theorem c_exact_root (L : Lw K mg) : Cal P w K mg base 4 "exact_root" (sp2 (fs_er K)) [] := by
  obtain ⟨fd, F⟩ := L.d_exact_root
  exact ⟨⟨_, fd, ["ratio", "k"], [], ok_exact_root L F, L.g_exact_root, F.kp, F.bindsN (fun _ _ _ _ _ _ us hl => match us, hl with | [_, _], _ => rfl), .nil⟩⟩
end
end T
set_option maxHeartbeats 4000000
namespace T
open PySem PySem.Spec PyProof.Rows L2 Z
section
variable {K : Frag} {σ : L2.St} {H1 : Hp} {i : Nat}
theorem z_foG {g : TG} {tb : TS} {D : Ends} {a : Addr} {xs : List V} (hv : σ[i]? = some (some (.ref a))) (I : Nat → L2.St → Hp → Prop) (h0 : I 0 σ H1) (h : Sq2 H1 a xs) (hl : ∀ k σ H, I k σ H → ∀ o, H1 a = some o → H a = some o)
    (hs : ∀ k x σ H, xs[k]? = some x → I k σ H → g x σ H fun σ2 H2 => tb { D with nx := I (k + 1), ct := I (k + 1), bk := D.nx } σ2 H2) (hd : ∀ σ H, I xs.length σ H → D.nx σ H) : tFor (iOr (iList K (tVar i)) (iTup K (tVar i))) g tb D σ H1 :=
  h.elim (fun h => .inl ⟨_, hv, z_foV h I h0 (fun k σ H p => hl k σ H p _ h) hs hd⟩) (fun h => .inr ⟨_, hv, z_foT h I h0 (fun k σ H p => hl k σ H p _ h) hs hd⟩)
end
/-- top, bottom, exponent -/
abbrev PQE := Int × Int × Int
/-- a list or a tuple of pairs: a Ratio and an exponent -/
def Facs (K : Frag) (H : Hp) (a : Addr) (rs : List PQE) : Prop := ∃ xs : List V, Sq2 H a xs ∧ xs.length = rs.length ∧ ∀ (k : Nat) (x : V), xs[k]? = some x → ∃ (c p : Addr) (r : PQE), rs[k]? = some r ∧ x = .ref c ∧ H c = some (.tup [.ref p, .int r.2.2]) ∧ Fr K H p r.1 r.2.1 ∧ 0 < r.2.1
theorem Facs.mono {K : Frag} {H H' : Hp} {a : Addr} {rs : List PQE} (s : Same H H') (h : Facs K H a rs) : Facs K H' a rs := by
  obtain ⟨xs, h1, h2, h3⟩ := h
  refine ⟨xs, h1.mono s, h2, fun k x e => ?_⟩
  obtain ⟨c, p, r, e1, e2, e3, e4, e5⟩ := h3 k x e
  exact ⟨c, p, r, e1, e2, s _ _ e3, e4.mono s, e5⟩
def okRow (r : PQE) : Prop := 0 ≤ r.1 ∧ 0 ≤ r.2.2 ∧ r.2.2 ≤ 5000
def esum : List PQE → Int
  | [] => 0
  | r :: l => r.2.2 + esum l
theorem esum_app (l : List PQE) (r : PQE) : esum (l ++ [r]) = esum l + r.2.2 := by
  induction l with
  | nil => simp [esum]
  | cons x l ih =>
    rw [List.cons_append, esum, esum, ih]
    omega
/-- the first row that is refused is the one at k -/
def BadAt (rs : List PQE) (k : Nat) (r : PQE) : Prop := rs[k]? = some r ∧ ¬ okRow r ∧ ∀ j x, j < k → rs[j]? = some x → okRow x
def fs_cf (K : Frag) : F1 := fun x H Q E => ∃ (a : Addr) (rs : List PQE), x = .ref a ∧ Facs K H a rs ∧
  (8 < rs.length → ∀ d H', Same H H' → H' d = some (.xd [("size", .int (rs.length : Int))]) → E (.ref (He.ga K "BadSize")) (some d) H') ∧
  (rs.length ≤ 8 → ∀ k r, BadAt rs k r → (r.1 < 0 → ∀ p d H', Same H H' → Fr K H' p r.1 r.2.1 → H' d = some (.xd [("ratio", .ref p)]) → E (.ref (He.ga K "Negative")) (some d) H') ∧
    (0 ≤ r.1 → ∀ d H', Same H H' → H' d = some (.xd [("value", .int r.2.2)]) → E (.ref (He.ga K "OutOfBounds")) (some d) H')) ∧
  (rs.length ≤ 8 → (∀ r, r ∈ rs → okRow r) → Q (.int (esum rs)) H)
theorem take_snoc {rs : List PQE} {k : Nat} {r : PQE} (h : rs[k]? = some r) : rs.take (k + 1) = rs.take k ++ [r] := by
  rw [List.take_add_one, h]
  rfl
/-- products of powers -/
def pw (f : PQE → Int) : List PQE → Int
  | [] => 1
  | r :: l => f r ^ r.2.2.toNat * pw f l
theorem pw_app (f : PQE → Int) (l : List PQE) (r : PQE) : pw f (l ++ [r]) = pw f l * f r ^ r.2.2.toNat := by
  induction l with
  | nil => simp [pw]
  | cons x l ih =>
    rw [List.cons_append, pw, pw, ih, Int.mul_assoc]
theorem pw_pos {f : PQE → Int} {l : List PQE} (h : ∀ r, r ∈ l → 0 < f r) : 0 < pw f l := by
  induction l with
  | nil => exact Int.one_pos
  | cons x l ih => exact Int.mul_pos (Int.pow_pos (h x List.mem_cons_self)) (ih fun r hr => h r (List.mem_cons_of_mem _ hr))
theorem z_asg2 {te : TE} {D : Ends} {σ : L2.St} {H : Hp} {i j : Nat} (q : te σ H fun x H1 => D.nx ((σ.set i (some x)).set j (some x)) H1) : tAsg2 te (gName i) (gName j) D σ H := q
theorem esum_nn {l : List PQE} (h : ∀ r, r ∈ l → okRow r) : 0 ≤ esum l := by
  induction l with
  | nil => exact Int.le_refl 0
  | cons x l ih =>
    rw [esum]
    have h1 := (h x List.mem_cons_self).2.1
    have h2 := ih fun r hr => h r (List.mem_cons_of_mem _ hr)
    omega
theorem esum_split {l : List PQE} (k : Nat) : esum l = esum (l.take k) + esum (l.drop k) := by
  induction l generalizing k with
  | nil => simp [esum]
  | cons x l ih =>
    match k with
    | 0 => simp [esum]
    | k + 1 =>
      rw [List.take_succ_cons, List.drop_succ_cons, esum, esum, ih k]
      omega
theorem esum_take {l : List PQE} (h : ∀ r, r ∈ l → okRow r) (k : Nat) : esum (l.take k) ≤ esum l ∧ 0 ≤ esum (l.take k) := by
  have h1 := esum_split (l := l) k
  have h2 := esum_nn (l := l.drop k) fun r hr => h r (List.mem_of_mem_drop hr)
  have h3 := esum_nn (l := l.take k) fun r hr => h r (List.mem_of_mem_take hr)
  omega
/-- one factor more on both sides -/
theorem fac_step {lf rt PB PT t w T b : Int} (h : lf * PB = rt * PT) (e : t * w = T * b) (n : Nat) : lf * t ^ n * (PB * w ^ n) = rt * b ^ n * (PT * T ^ n) := by
  have e1 : t ^ n * w ^ n = T ^ n * b ^ n := by rw [← Int.mul_pow, ← Int.mul_pow, e]
  generalize t ^ n = u at *
  generalize w ^ n = v at *
  generalize T ^ n = x at *
  generalize b ^ n = y at *
  calc lf * u * (PB * v) = (lf * PB) * (u * v) := by grind
    _ = rt * PT * (x * y) := by rw [h, e1]
    _ = rt * y * (PT * x) := by grind
/-- the sign of a comparison -/
def cmpI (a b : Int) : Int := if a < b then -1 else if b < a then 1 else 0
theorem cmp_scale {a b c d g : Int} (g0 : 0 < g) {k : Int} (k0 : 0 < k) (h1 : a * k = c * g) (h2 : b * k = d * g) : cmpI a b = cmpI c d := by
  have lt : ∀ {a b c d : Int}, a * k = c * g → b * k = d * g → (a < b ↔ c < d) := fun {a b c d} h1 h2 => by
    constructor
    · intro h
      refine Int.lt_of_mul_lt_mul_right (a := g) ?_ (by omega)
      rw [← h1, ← h2]
      exact Int.mul_lt_mul_of_pos_right h k0
    · intro h
      refine Int.lt_of_mul_lt_mul_right (a := k) ?_ (by omega)
      rw [h1, h2]
      exact Int.mul_lt_mul_of_pos_right h g0
  unfold cmpI
  have l1 := lt h1 h2
  have l2 := lt h2 h1
  by_cases c1 : a < b
  · rw [if_pos c1, if_pos (l1.mp c1)]
  · rw [if_neg c1, if_neg (fun z => c1 (l1.mpr z))]
    by_cases c2 : b < a
    · rw [if_pos c2, if_pos (l2.mp c2)]
    · rw [if_neg c2, if_neg (fun z => c2 (l2.mpr z))]
def fs_cp (K : Frag) : F2 := fun x y H Q E => ∃ (a b : Addr) (rs ss : List PQE), x = .ref a ∧ y = .ref b ∧ Facs K H a rs ∧ Facs K H b ss ∧ (∀ r, r ∈ rs ++ ss → Bits 20 r.1 ∧ Bits 20 r.2.1) ∧
  (8 < rs.length → ∀ d H', Same H H' → H' d = some (.xd [("size", .int (rs.length : Int))]) → E (.ref (He.ga K "BadSize")) (some d) H') ∧
  (rs.length ≤ 8 → ∀ k r, BadAt rs k r → (r.1 < 0 → ∀ p d H', Same H H' → Fr K H' p r.1 r.2.1 → H' d = some (.xd [("ratio", .ref p)]) → E (.ref (He.ga K "Negative")) (some d) H') ∧
    (0 ≤ r.1 → ∀ d H', Same H H' → H' d = some (.xd [("value", .int r.2.2)]) → E (.ref (He.ga K "OutOfBounds")) (some d) H')) ∧
  (rs.length ≤ 8 → (∀ r, r ∈ rs → okRow r) →
    (8 < ss.length → ∀ d H', Same H H' → H' d = some (.xd [("size", .int (ss.length : Int))]) → E (.ref (He.ga K "BadSize")) (some d) H') ∧
    (ss.length ≤ 8 → ∀ k r, BadAt ss k r → (r.1 < 0 → ∀ p d H', Same H H' → Fr K H' p r.1 r.2.1 → H' d = some (.xd [("ratio", .ref p)]) → E (.ref (He.ga K "Negative")) (some d) H') ∧
      (0 ≤ r.1 → ∀ d H', Same H H' → H' d = some (.xd [("value", .int r.2.2)]) → E (.ref (He.ga K "OutOfBounds")) (some d) H')) ∧
    (ss.length ≤ 8 → (∀ r, r ∈ ss → okRow r) →
      (5000 < esum rs + esum ss → ∀ d H', Same H H' → H' d = some (.xd [("work", .int (esum rs + esum ss))]) → E (.ref (He.ga K "TooHeavy")) (some d) H') ∧
      (esum rs + esum ss ≤ 5000 → Q (.int (cmpI (pw (·.1) rs * pw (·.2.1) ss) (pw (·.1) ss * pw (·.2.1) rs))) H)))
local macro_rules | `(tactic| walk_at "up") => `(tactic| first
  | assumption
  | (refine' IsR.mono (by assumption) ?zup; case zup => walk_at "up")
  | (refine' IsE.mono (by assumption) ?zup; case zup => walk_at "up")
  | (refine' Same.at (by assumption) ?zup; case zup => walk_at "up")
  | (refine' SqL.of ?zup; case zup => walk_at "up")
  | (refine' L2.Same.seq (by assumption) ?zup; case zup => walk_at "up"))
local macro_rules | `(tactic| walk_at "z") => `(tactic| first
  | ((with_reducible refine' z_var ?zvh ?_); (case zvh => exact rfl))
  | with_reducible refine z_c ?_
  | with_reducible refine z_cons ?_
  | with_reducible refine z_nil ?_
  | with_reducible refine z_op ?_
  | with_reducible refine z_nx ?_
  | with_reducible refine z_seq ?_
  | with_reducible refine z_asg ?_
  | with_reducible refine z_asgG ?_
  | with_reducible refine z_call ?_
  | with_reducible refine z_sq0 ?_
  | with_reducible refine z_sq1 ?_
  | with_reducible refine z_ifS ?_
  | with_reducible refine z_test ?_
  | with_reducible refine z_tb ?_
  | with_reducible refine z_bl ?_
  | with_reducible refine z_blI ?_
  | with_reducible refine z_ret ?_
  | with_reducible refine z_rt ?_
  | with_reducible refine z_T ?_
  | with_reducible refine z_F ?_
  | with_reducible refine z_add ?_
  | with_reducible refine z_sub ?_
  | with_reducible refine z_neg ?_
  | with_reducible refine z_un ?_
  | with_reducible refine z_eqI ?_
  | with_reducible refine z_neI ?_
  | with_reducible refine z_lt ?_
  | with_reducible refine z_le ?_
  | with_reducible refine z_gt ?_
  | with_reducible refine z_ge ?_
  | with_reducible refine z_not ?_
  | with_reducible refine z_and ?_
  | with_reducible refine z_or ?_
  | with_reducible refine z_andV ?_
  | with_reducible refine z_orV ?_
  | with_reducible refine z_notV ?_
  | with_reducible refine z_if ?_
  | with_reducible refine z_cb ?_
  | with_reducible refine z_int1 ?_
  | with_reducible refine z_intb ?_
  | with_reducible refine z_abs ?_
  | with_reducible refine z_gcd ?_
  | with_reducible refine z_isi_ii ?_
  | with_reducible refine z_isi_ib ?_
  | with_reducible refine z_next ?_
  | with_reducible refine z_drop ?_
  | with_reducible refine z_par ?_
  | with_reducible refine z_par2 ?_
  | with_reducible refine z_tupN ?_
  | with_reducible refine z_lstN ?_
  | ((with_reducible refine' z_nt ?zl1 ?_); (case zl1 => exact Nat.le_of_ble_eq_true rfl); intro p H' hp hs he)
  | ((with_reducible refine' z_gtup ?zl1 ?zl2 ?_); (case zl1 => walk_at "up"); (case zl2 => exact rfl))
  | with_reducible refine z_bk ?_
  | with_reducible refine z_ct ?_
  | with_reducible refine z_break ?_
  | with_reducible refine z_cont ?_
  | with_reducible refine z_retN ?_
  | with_reducible refine z_nn ?_
  | with_reducible refine z_mk ?_
  | with_reducible refine z_gn ?_
  | with_reducible refine z_gcons ?_
  | with_reducible refine z_gnil ?_
  | with_reducible refine z_mt ?_
  | with_reducible refine z_mko ?_
  | with_reducible refine z_for2 ?_
  | with_reducible refine z_ownI ?_
  | ((with_reducible refine' z_lenL ?zl1 ?_); (case zl1 => walk_at "up"))
  | ((with_reducible refine' z_ixT ?zl1 ?zl2 ?_); (case zl1 => walk_at "up"); (case zl2 => exact rfl))
  | ((with_reducible refine' z_mulL ?zl1 ?zl2 ?_); (case zl1 => omega); (case zl2 => omega))
  | ((with_reducible refine' z_mulR ?zl1 ?zl2 ?_); (case zl1 => omega); (case zl2 => omega))
  | ((with_reducible refine' z_divS ?zl1 ?zl2 ?_); (case zl1 => omega); (case zl2 => omega))
  | ((with_reducible refine' z_mulW ?zl1 ?zl2 ?zl3 ?zl4 ?_); (case zl1 => omega); (case zl2 => omega); (case zl3 => omega); (case zl4 => omega))
  | ((with_reducible refine' z_divW ?zl1 ?zl2 ?_); (case zl1 => omega); (case zl2 => omega)))
local macro_rules | `(tactic| walk_at "zz") => `(tactic| repeat (walk_at "z"))
local macro_rules | `(tactic| walk_at "z") => `(tactic| with_reducible refine z_lstN ?_)
local macro_rules | `(tactic| walk_at "z") => `(tactic| with_reducible refine z_p6 ?_)
local macro_rules | `(tactic| walk_at "z") => `(tactic| with_reducible refine z_p12 ?_)
local macro_rules | `(tactic| walk_at "z") => `(tactic| with_reducible refine z_p13 ?_)
local macro_rules | `(tactic| walk_at "z") => `(tactic| with_reducible refine z_calln ?_)
local macro_rules | `(tactic| walk_at "z") => `(tactic| with_reducible refine z_xfS ?_)
local macro_rules | `(tactic| walk_at "z") => `(tactic| with_reducible refine z_lcS ?_)
local macro_rules | `(tactic| walk_at "z") => `(tactic| with_reducible refine z_lcRS ?_)
local macro_rules | `(tactic| walk_at "z") => `(tactic| with_reducible refine z_lcZS ?_)
local macro_rules | `(tactic| walk_at "z") => `(tactic| with_reducible refine z_foS ?_)
local macro_rules | `(tactic| walk_at "z") => `(tactic| with_reducible refine z_for1 ?_)
local macro_rules | `(tactic| walk_at "z") => `(tactic| with_reducible refine z_tsl ?_)
local macro_rules | `(tactic| walk_at "z") => `(tactic| with_reducible refine z_np ?_)
local macro_rules | `(tactic| walk_at "z") => `(tactic| with_reducible refine z_pt ?_)
local macro_rules | `(tactic| walk_at "z") => `(tactic| with_reducible refine z_pti ?_)
local macro_rules | `(tactic| walk_at "z") => `(tactic| with_reducible refine z_catI ?_)
local macro_rules | `(tactic| walk_at "z") => `(tactic| with_reducible refine z_isNI ?_)
local macro_rules | `(tactic| walk_at "z") => `(tactic| with_reducible refine z_isNN ?_)
local macro_rules | `(tactic| walk_at "z") => `(tactic| with_reducible refine z_notNI ?_)
local macro_rules | `(tactic| walk_at "z") => `(tactic| with_reducible refine z_notNN ?_)
local macro_rules | `(tactic| walk_at "z") => `(tactic| with_reducible refine z_gsub ?_)
local macro_rules | `(tactic| walk_at "z") => `(tactic| with_reducible refine z_isNb ?_)
local macro_rules | `(tactic| walk_at "z") => `(tactic| with_reducible refine z_notNb ?_)
local macro_rules | `(tactic| walk_at "z") => `(tactic| ((with_reducible refine' z_nlR ?zl1 ?_); (case zl1 => exact Nat.le_of_ble_eq_true rfl); intro p H' hp hs he))
local macro_rules | `(tactic| walk_at "z") => `(tactic| ((with_reducible refine' z_repR ?zl1 ?zl2 ?_); (case zl1 => omega); (case zl2 => omega)))
local macro_rules | `(tactic| walk_at "z") => `(tactic| ((with_reducible refine' z_repL ?zl1 ?zl2 ?_); (case zl1 => omega); (case zl2 => omega)))
local macro_rules | `(tactic| walk_at "z") => `(tactic| ((with_reducible refine' z_lenLst ?zl1 ?_); (case zl1 => walk_at "up")))
local macro_rules | `(tactic| walk_at "z") => `(tactic| ((with_reducible refine' z_cat ?zl1 ?zl2 ?zl3 ?_); (case zl1 => walk_at "up"); (case zl2 => walk_at "up"); (case zl3 => (simp only [List.length_map, List.length_cons, List.length_nil, List.length_append, List.length_replicate]; omega)); intro p H' hp hs he))
local macro_rules | `(tactic| walk_at "z") => `(tactic| with_reducible refine z_sfl ?_)
local macro_rules | `(tactic| walk_at "z") => `(tactic| with_reducible refine z_lcES ?_)
local macro_rules | `(tactic| walk_at "z") => `(tactic| with_reducible refine z_lcMS ?_)
local macro_rules | `(tactic| walk_at "z") => `(tactic| with_reducible refine z_foES ?_)
local macro_rules | `(tactic| walk_at "z") => `(tactic| with_reducible refine z_fo3S ?_)
local macro_rules | `(tactic| walk_at "z") => `(tactic| with_reducible refine z_sta ?_)
local macro_rules | `(tactic| walk_at "z") => `(tactic| with_reducible refine z_sta1 ?_)
local macro_rules | `(tactic| walk_at "z") => `(tactic| with_reducible refine z_lcTS ?_)
local macro_rules | `(tactic| walk_at "z") => `(tactic| with_reducible refine z_foTS ?_)
local macro_rules | `(tactic| walk_at "z") => `(tactic| with_reducible refine z_revTS ?_)
local macro_rules | `(tactic| walk_at "z") => `(tactic| with_reducible refine z_max2 ?_)
local macro_rules | `(tactic| walk_at "z") => `(tactic| ((with_reducible refine' z_fldt ?zc1 ?zc2 ?zl1 ?zl2 ?_); (case zc1 => exact Lw.cl_Ratio (by assumption)); (case zc2 => exact Lw.na_Ratio_top (by assumption)); (case zl1 => exact rfl); (case zl2 => walk_at "up")))
local macro_rules | `(tactic| walk_at "z") => `(tactic| ((with_reducible refine' z_fldb ?zc1 ?zc2 ?zl1 ?zl2 ?_); (case zc1 => exact Lw.cl_Ratio (by assumption)); (case zc2 => exact Lw.na_Ratio_bottom (by assumption)); (case zl1 => exact rfl); (case zl2 => walk_at "up")))
local macro_rules | `(tactic| walk_at "z") => `(tactic| ((with_reducible refine' u_mtF ?zl1 ?_); (case zl1 => walk_at "up")))
local macro_rules | `(tactic| walk_at "z") => `(tactic| ((with_reducible refine' z_ixLst ?zl1 ?zl2 ?_); (case zl1 => walk_at "up"); (case zl2 => exact rfl)))
local macro_rules | `(tactic| walk_at "z") => `(tactic| with_reducible refine z_for3 ?_)
local macro_rules | `(tactic| walk_at "z") => `(tactic| with_reducible refine z_tbits ?_)
local macro_rules | `(tactic| walk_at "z") => `(tactic| with_reducible refine z_tbi ?_)
local macro_rules | `(tactic| walk_at "z") => `(tactic| ((with_reducible refine' z_div2S ?zl1 ?zl2 ?_); (case zl1 => omega); (case zl2 => omega)))
theorem same02d {H H1 H2 : Hp} (h : Same H1 H2) (e : Same H H1) : Same H H2 := e.trans h
local macro_rules | `(tactic| walk_at "sm") => `(tactic| first
  | assumption
  | exact fun _ _ h => h
  | (refine' same02d (by assumption) ?zsm; case zsm => walk_at "sm"))
local macro_rules | `(tactic| walk_at "up") => `(tactic| first
  | assumption
  | (with_reducible refine' IsR.mono (by assumption) ?zup; case zup => walk_at "up")
  | (with_reducible refine' Fr.mono (by assumption) ?zup; case zup => walk_at "up")
  | (with_reducible refine' Same.at (by assumption) ?zup; case zup => walk_at "up")
  | (with_reducible refine' Facs.mono (by assumption) ?zup; case zup => walk_at "up")
  | fail)
section
variable {P : Program} {w : World} {K : Frag} {mg : Str → Option Value} {base : Heap}
theorem ok_check_factors (L : Lw K mg) {fd : FuncData} (F : FunD K "check_factors" "check_factors" (defArgs s_check_factors) (defBody s_check_factors) (defScope s_check_factors) (df_check_factors.dvs K) (df_check_factors.kws K) (He.fAd K ("check_factors", none)) fd) : FnOk P w K mg base (L2N.CX P w) 4 (He.fAd K ("check_factors", none)) fd (["factors"] : List Str) (sp1 (fs_cf K)) := by
  refine FunD.ok F sc_check_factors len1 (fun cdv A outer s H vs Q E hr h => ?_)
  obtain ⟨a, rfl, h⟩ := h
  refine ⟨_, (pss_cons (ps_expr (pe_c (c_check_size (K := K) L) hr (by decide) (L2N.takes_of rfl rfl rfl rfl) (pa_cons (pv 0) (pa_cons pe_int (pa_cons pe_int pa_nil)))))
    (pss_cons (ps_set (i := 1) sc_check_factors.nd rfl (by first | exact Or.inl rfl | exact Or.inr rfl) pe_int)
    (pss_cons (ps_for (passes_of rfl) rfl (pi_or (pi_listK (K := K) rfl (pv 0)) (pi_tupK (K := K) rfl (pv 0))) (pg_tup (by rfl) (pgs_cons (pg_name (i := 2) sc_check_factors.nd rfl (by first | exact Or.inl rfl | exact Or.inr rfl)) (pgs_cons (pg_name (i := 3) sc_check_factors.nd rfl (by first | exact Or.inl rfl | exact Or.inr rfl)) pgs_nil))) (pss_cons (ps_if (pt_cmpR o_lt (pe_mt0 (c_Ratio_sign (K := K) L) hr (by decide) (L2N.takes_of rfl rfl rfl rfl) (pv 2)) pe_int (nomark _)) (pss_one (L2N.ps_raise rfl (L2N.takes_of rfl rfl rfl rfl) (pmk_x (c_NegativeD_initD (K := K) L) hr (by decide) passF (pa_cons (pv 2) pa_nil)))) pss_nil)
    (pss_cons (ps_expr (pe_c (c_check_number (K := K) L) hr (by decide) (L2N.takes_of rfl rfl rfl rfl) (pa_cons (pv 3) (pa_cons pe_int (pa_cons pe_int pa_nil)))))
    (pss_one (ps_set (i := 1) sc_check_factors.nd rfl (by first | exact Or.inl rfl | exact Or.inr rfl) (pe_op o_cat (pv 1) (pv 3)))))))
    (pss_one (ps_ret (pv 1)))))), ?_⟩
  rw [show L2.start (["factors", "total", "ratio", "exponent"] : List Str) [a] = [some a, none, none, none] from rfl]
  obtain ⟨a, rs, rfl, ⟨xs, hs, hl, hx⟩, k1, k2, k3⟩ := h
  try dsimp only [List.set]
  walk_at "zz"
  refine ⟨_, _, _, rfl, a, xs, 0, 8, rfl, rfl, rfl, hs, fun z => ?_, fun z d H' s hd => k1 (by omega) d H' s (by rw [← hl]; exact hd)⟩
  have l8 : rs.length ≤ 8 := by omega
  try dsimp only [List.set]
  walk_at "zz"
  refine z_foG (a := a) rfl (fun i σ' H' => ∃ x2 x3 : Option V, σ' = [some (.ref a), some (.int (esum (rs.take i))), x2, x3] ∧ H = H' ∧ ∀ j x, j < i → rs[j]? = some x → okRow x) ⟨_, _, rfl, rfl, fun j x hj => by omega⟩ hs (fun i σ' H' z o ho => by obtain ⟨_, _, _, rfl, _⟩ := z; exact ho) ?_ ?_
  · rintro i x σ' H' hi ⟨x2, x3, rfl, rfl, ok⟩
    obtain ⟨c, p, r, er, rfl, hc, hF, w0⟩ := hx i x hi
    have k2' := k2 l8 i r
    try dsimp only [List.set]
    walk_at "zz"
    refine ⟨_, rfl, p, r.1, r.2.1, rfl, hF, w0, ?_⟩
    try dsimp only [List.set]
    walk_at "zz"
    by_cases c : r.1 < 0
    · rw [if_pos c]
      refine z_dT (by decide) ?_
      try dsimp only [List.set]
      walk_at "zz"
      exact z_exo1 (fun d H' s hd => (k2' ⟨er, fun z => by have := z.1; omega, ok⟩).1 c p d H' s (hF.mono s) hd)
    · rw [if_neg c]
      refine z_dF (by split <;> decide) ?_
      try dsimp only [List.set]
      walk_at "zz"
      refine ⟨_, _, _, rfl, r.2.2, 0, rfl, rfl, .inr ⟨5000, rfl⟩, fun z => ?_, fun z d H' s hd => (k2' ⟨er, fun y => z ⟨y.2.1, fun h e => by cases e; exact y.2.2⟩, ok⟩).2 (by omega) d H' s hd⟩
      have z2 := z.2 5000 rfl
      try dsimp only [List.set]
      walk_at "zz"
      rw [show esum (rs.take i) + r.2.2 = esum (rs.take (i + 1)) from by rw [take_snoc er, esum_app]]
      refine ⟨_, _, rfl, rfl, fun j x hj hx => ?_⟩
      by_cases e : j = i
      · subst e
        rw [er] at hx
        obtain rfl := Option.some.inj hx
        exact ⟨by omega, z.1, z2⟩
      · exact ok j x (by omega) hx
  · rintro σ' H' ⟨x2, x3, rfl, rfl, ok⟩
    try dsimp only [List.set]
    walk_at "zz"
    rw [hl, List.take_length]
    refine k3 l8 fun r hr => ?_
    obtain ⟨j, hj, e⟩ := List.mem_iff_getElem.mp hr
    exact ok j r (by omega) (by rw [List.getElem?_eq_getElem hj, e])
theorem c_check_factors (L : Lw K mg) : Cal P w K mg base 4 "check_factors" (sp1 (fs_cf K)) [] := by
  obtain ⟨fd, F⟩ := L.d_check_factors
  exact ⟨⟨_, fd, ["factors"], [], ok_check_factors L F, L.g_check_factors, F.kp, F.bindsN (fun _ _ _ _ _ _ us hl => match us, hl with | [_], _ => rfl), .nil⟩⟩
theorem ok_compare_products (L : Lw K mg) {fd : FuncData} (F : FunD K "compare_products" "compare_products" (defArgs s_compare_products) (defBody s_compare_products) (defScope s_compare_products) (df_compare_products.dvs K) (df_compare_products.kws K) (He.fAd K ("compare_products", none)) fd) : FnOk P w K mg base (L2N.CX P w) 5 (He.fAd K ("compare_products", none)) fd (["first", "second"] : List Str) (sp2 (fs_cp K)) := by
  refine FunD.ok F sc_compare_products len2 (fun cdv A outer s H vs Q E hr h => ?_)
  obtain ⟨a, b, rfl, h⟩ := h
  refine ⟨_, (pss_cons (ps_set (i := 2) sc_compare_products.nd rfl (by first | exact Or.inl rfl | exact Or.inr rfl) (pe_c (c_check_factors (K := K) L) hr (by decide) (L2N.takes_of rfl rfl rfl rfl) (pa_cons (pv 0) pa_nil)))
    (pss_cons (ps_set (i := 2) sc_compare_products.nd rfl (by first | exact Or.inl rfl | exact Or.inr rfl) (pe_op o_cat (pv 2) (pe_c (c_check_factors (K := K) L) hr (by decide) (L2N.takes_of rfl rfl rfl rfl) (pa_cons (pv 1) pa_nil))))
    (pss_cons (ps_if (pt_cmpR o_gt (pv 2) pe_int (nomark _)) (pss_one (L2N.ps_raise rfl (L2N.takes_of rfl rfl rfl rfl) (pmk_x (c_TooHeavyD_initD (K := K) L) hr (by decide) passF (pa_cons (pv 2) pa_nil)))) pss_nil)
    (pss_cons (ps_asg2 pe_int (pg_name (i := 3) sc_compare_products.nd rfl (by first | exact Or.inl rfl | exact Or.inr rfl)) (pg_name (i := 4) sc_compare_products.nd rfl (by first | exact Or.inl rfl | exact Or.inr rfl)))
    (pss_cons (ps_for (passes_of rfl) rfl (pi_or (pi_listK (K := K) rfl (pv 0)) (pi_tupK (K := K) rfl (pv 0))) (pg_tup (by rfl) (pgs_cons (pg_name (i := 5) sc_compare_products.nd rfl (by first | exact Or.inl rfl | exact Or.inr rfl)) (pgs_cons (pg_name (i := 6) sc_compare_products.nd rfl (by first | exact Or.inl rfl | exact Or.inr rfl)) pgs_nil))) (pss_cons (ps_set (i := 3) sc_compare_products.nd rfl (by first | exact Or.inl rfl | exact Or.inr rfl) (pe_op o_rep (pv 3) (pe_c (c_whole_power (K := K) L) hr (by decide) (L2N.takes_of rfl rfl rfl rfl) (pa_cons (pe_fld (pv 5) rfl) (pa_cons (pv 6) pa_nil)))))
    (pss_one (ps_set (i := 4) sc_compare_products.nd rfl (by first | exact Or.inl rfl | exact Or.inr rfl) (pe_op o_rep (pv 4) (pe_c (c_whole_power (K := K) L) hr (by decide) (L2N.takes_of rfl rfl rfl rfl) (pa_cons (pe_fld (pv 5) rfl) (pa_cons (pv 6) pa_nil))))))))
    (pss_cons (ps_for (passes_of rfl) rfl (pi_or (pi_listK (K := K) rfl (pv 1)) (pi_tupK (K := K) rfl (pv 1))) (pg_tup (by rfl) (pgs_cons (pg_name (i := 5) sc_compare_products.nd rfl (by first | exact Or.inl rfl | exact Or.inr rfl)) (pgs_cons (pg_name (i := 6) sc_compare_products.nd rfl (by first | exact Or.inl rfl | exact Or.inr rfl)) pgs_nil))) (pss_cons (ps_set (i := 4) sc_compare_products.nd rfl (by first | exact Or.inl rfl | exact Or.inr rfl) (pe_op o_rep (pv 4) (pe_c (c_whole_power (K := K) L) hr (by decide) (L2N.takes_of rfl rfl rfl rfl) (pa_cons (pe_fld (pv 5) rfl) (pa_cons (pv 6) pa_nil)))))
    (pss_one (ps_set (i := 3) sc_compare_products.nd rfl (by first | exact Or.inl rfl | exact Or.inr rfl) (pe_op o_rep (pv 3) (pe_c (c_whole_power (K := K) L) hr (by decide) (L2N.takes_of rfl rfl rfl rfl) (pa_cons (pe_fld (pv 5) rfl) (pa_cons (pv 6) pa_nil))))))))
    (pss_cons (ps_if (pt_cmpR o_lt (pv 3) (pv 4) (nomark _)) (pss_one (ps_ret (pe_un o_neg pe_int))) pss_nil)
    (pss_one (ps_ret (pe_ifExp (pt_cmpR o_gt (pv 3) (pv 4) (nomark _)) pe_int pe_int)))))))))), ?_⟩
  rw [show L2.start (["first", "second", "work", "left", "right", "ratio", "exponent"] : List Str) [a, b] = [some a, some b, none, none, none, none, none] from rfl]
  obtain ⟨a, b, rs, ss, rfl, rfl, hR, hS, hB, k1, k2, k3⟩ := h
  try dsimp only [List.set]
  walk_at "zz"
  refine ⟨_, rfl, a, rs, rfl, hR, k1, k2, fun l8 okR => ?_⟩
  obtain ⟨k4, k5, k6⟩ := k3 l8 okR
  try dsimp only [List.set]
  walk_at "zz"
  refine ⟨_, rfl, b, ss, rfl, hS, k4, k5, fun m8 okS => ?_⟩
  obtain ⟨k7, k8⟩ := k6 m8 okS
  try dsimp only [List.set]
  walk_at "zz"
  refine z_d2 (fun c => ?_) (fun c => ?_)
  · try dsimp only [List.set]
    walk_at "zz"
    exact z_exo1 (k7 c)
  obtain ⟨xs, hs, hl, hx⟩ := hR
  obtain ⟨ys, gs, gl, gx⟩ := hS
  have e5 : esum rs + esum ss ≤ 5000 := by omega
  have esn := esum_nn okS
  have ern := esum_nn okR
  try dsimp only [List.set]
  walk_at "zz"
  refine z_asg2 ?_
  try dsimp only [List.set]
  walk_at "zz"
  refine z_foG (a := a) rfl (fun i σ' H' => ∃ (lf rt : Int) (x5 x6 : Option V), σ' = [some (.ref a), some (.ref b), some (.int (esum rs + esum ss)), some (.int lf), some (.int rt), x5, x6] ∧ H = H' ∧ lf * pw (·.2.1) (rs.take i) = rt * pw (·.1) (rs.take i) ∧ 0 < rt ∧ 0 ≤ lf ∧ Bits (20 * (esum (rs.take i)).toNat + i + 1) lf ∧ Bits (20 * (esum (rs.take i)).toNat + i + 1) rt) ⟨1, 1, _, _, rfl, rfl, rfl, by decide, by decide, Bits.small (n := 1) (by decide) (by decide), Bits.small (n := 1) (by decide) (by decide)⟩ hs (fun i σ' H' z o ho => by obtain ⟨_, _, _, _, _, rfl, _⟩ := z; exact ho) ?_ ?_
  · rintro i x σ' H' hi ⟨lf, rt, x5, x6, rfl, rfl, inv, rt0, lf0, bl, br⟩
    obtain ⟨cc, p, r, er, rfl, hc, hF, wp⟩ := hx i x hi
    obtain ⟨t, b0, hr, b00, gg, e⟩ := id hF
    have hm : r ∈ rs := List.mem_of_getElem? er
    obtain ⟨o1, o2, o3⟩ := okR r hm
    obtain ⟨bt, bb⟩ := fr_bits b00 gg wp e (hB r (List.mem_append_left _ hm)).1 (hB r (List.mem_append_left _ hm)).2
    obtain ⟨n, hn⟩ : ∃ n : Nat, r.2.2 = (n : Int) := ⟨r.2.2.toNat, by omega⟩
    have et := esum_take okR (i + 1)
    have ei := esum_take okR i
    rw [take_snoc er, esum_app, hn] at et
    rw [hn] at hc
    have t0 : 0 ≤ t := by
      have := (fr_neg b00 wp e).1
      omega
    have bp := S02.pow_nn t0 n
    have bq : 0 < b0 ^ n := Int.pow_pos b00
    have hn2 : r.2.2.toNat = n := by omega
    have sz : 20 * (esum (rs.take i)).toNat + i + 1 + (20 * n + 1) = 20 * (esum (rs.take (i + 1))).toNat + (i + 1) + 1 := by
      rw [take_snoc er, esum_app, hn]
      omega
    have i8 : i < 8 := by
      have := (List.getElem?_eq_some_iff.mp hi).1
      omega
    try dsimp only [List.set]
    walk_at "zz"
    refine u_wp bt (by omega) (by omega) ?_
    try dsimp only [List.set]
    walk_at "zz"
    refine z_repU0 bl (bpow bt n) (by omega) ?_
    try dsimp only [List.set]
    walk_at "zz"
    refine u_wp bb (by omega) (by omega) ?_
    try dsimp only [List.set]
    walk_at "zz"
    refine z_repU0 br (bpow bb n) (by omega) ?_
    try dsimp only [List.set]
    walk_at "zz"
    refine ⟨_, _, _, _, rfl, rfl, ?_, Int.mul_pos rt0 bq, Int.mul_nonneg lf0 bp, ?_, ?_⟩
    · rw [take_snoc er, pw_app, pw_app, hn2]
      exact fac_step inv e n
    · rw [← sz]
      exact bl.mul (bpow bt n)
    · rw [← sz]
      exact br.mul (bpow bb n)
  rintro σ' H' ⟨lf, rt, x5, x6, rfl, rfl, inv, rt0, lf0, bl, br⟩
  rw [hl, List.take_length] at inv bl br
  try dsimp only [List.set]
  walk_at "zz"
  have S8 : 20 * (esum rs).toNat + rs.length + 1 ≤ 100009 := by omega
  generalize 20 * (esum rs).toNat + rs.length + 1 = S0 at *
  refine z_foG (a := b) rfl (fun i σ' H' => ∃ (L2 R2 T2 B2 : Int) (x5 x6 : Option V), σ' = [some (.ref a), some (.ref b), some (.int (esum rs + esum ss)), some (.int L2), some (.int R2), x5, x6] ∧ H = H' ∧ L2 = lf * B2 ∧ R2 = rt * T2 ∧ T2 * pw (·.2.1) (ss.take i) = B2 * pw (·.1) (ss.take i) ∧ 0 < B2 ∧ 0 ≤ T2 ∧ Bits (S0 + 20 * (esum (ss.take i)).toNat + i) L2 ∧ Bits (S0 + 20 * (esum (ss.take i)).toNat + i) R2) ⟨lf, rt, 1, 1, _, _, rfl, rfl, (Int.mul_one _).symm, (Int.mul_one _).symm, rfl, by decide, by decide, bl, br⟩ gs (fun i σ' H' z o ho => by obtain ⟨_, _, _, _, _, _, _, rfl, _⟩ := z; exact ho) ?_ ?_
  · rintro i x σ' H' hi ⟨L2, R2, T2, B2, x5, x6, rfl, rfl, hL, hR, inv2, B0, T0, bl2, br2⟩
    obtain ⟨cc, p, r, er, rfl, hc, hF, wp⟩ := gx i x hi
    obtain ⟨t, b0, hr, b00, gg, e⟩ := id hF
    have hm : r ∈ ss := List.mem_of_getElem? er
    obtain ⟨o1, o2, o3⟩ := okS r hm
    obtain ⟨bt, bb⟩ := fr_bits b00 gg wp e (hB r (List.mem_append_right _ hm)).1 (hB r (List.mem_append_right _ hm)).2
    obtain ⟨n, hn⟩ : ∃ n : Nat, r.2.2 = (n : Int) := ⟨r.2.2.toNat, by omega⟩
    have et := esum_take okS (i + 1)
    have ei := esum_take okS i
    rw [take_snoc er, esum_app, hn] at et
    rw [hn] at hc
    have t0 : 0 ≤ t := by
      have := (fr_neg b00 wp e).1
      omega
    have bp := S02.pow_nn t0 n
    have bq : 0 < b0 ^ n := Int.pow_pos b00
    have hn2 : r.2.2.toNat = n := by omega
    have sz : S0 + 20 * (esum (ss.take i)).toNat + i + (20 * n + 1) = S0 + 20 * (esum (ss.take (i + 1))).toNat + (i + 1) := by
      rw [take_snoc er, esum_app, hn]
      omega
    have i8 : i < 8 := by
      have := (List.getElem?_eq_some_iff.mp hi).1
      omega
    try dsimp only [List.set]
    walk_at "zz"
    refine u_wp bt (by omega) (by omega) ?_
    try dsimp only [List.set]
    walk_at "zz"
    refine z_repU0 br2 (bpow bt n) (by omega) ?_
    try dsimp only [List.set]
    walk_at "zz"
    refine u_wp bb (by omega) (by omega) ?_
    try dsimp only [List.set]
    walk_at "zz"
    refine z_repU0 bl2 (bpow bb n) (by omega) ?_
    try dsimp only [List.set]
    walk_at "zz"
    refine ⟨_, _, T2 * t ^ n, B2 * b0 ^ n, _, _, rfl, rfl, by rw [hL, Int.mul_assoc], by rw [hR, Int.mul_assoc], ?_, Int.mul_pos B0 bq, Int.mul_nonneg T0 bp, ?_, ?_⟩
    · rw [take_snoc er, pw_app, pw_app, hn2]
      exact fac_step inv2 e n
    · rw [← sz]
      exact bl2.mul (bpow bb n)
    · rw [← sz]
      exact br2.mul (bpow bt n)
  rintro σ' H' ⟨L2, R2, T2, B2, x5, x6, rfl, rfl, hL, hR, inv2, B0, T0, bl2, br2⟩
  rw [gl, List.take_length] at inv2
  have pb1 : 0 < pw (·.2.1) rs := pw_pos fun r hr => by
    obtain ⟨j, hj, ej⟩ := List.mem_iff_getElem.mp hr
    obtain ⟨_, _, r', e1, _, _, _, e5⟩ := hx j _ (List.getElem?_eq_getElem (by omega))
    rw [List.getElem?_eq_getElem hj] at e1
    obtain rfl := Option.some.inj e1
    rw [← ej]
    exact e5
  have pb2 : 0 < pw (·.2.1) ss := pw_pos fun r hr => by
    obtain ⟨j, hj, ej⟩ := List.mem_iff_getElem.mp hr
    obtain ⟨_, _, r', e1, _, _, _, e5⟩ := gx j _ (List.getElem?_eq_getElem (by omega))
    rw [List.getElem?_eq_getElem hj] at e1
    obtain rfl := Option.some.inj e1
    rw [← ej]
    exact e5
  have key : cmpI L2 R2 = cmpI (pw (·.1) rs * pw (·.2.1) ss) (pw (·.1) ss * pw (·.2.1) rs) := by
    refine cmp_scale (g := rt * B2) (Int.mul_pos rt0 B0) (k := pw (·.2.1) rs * pw (·.2.1) ss) (Int.mul_pos pb1 pb2) ?_ ?_
    · rw [hL]
      calc lf * B2 * (pw (·.2.1) rs * pw (·.2.1) ss) = (lf * pw (·.2.1) rs) * (B2 * pw (·.2.1) ss) := by grind
        _ = rt * pw (·.1) rs * (B2 * pw (·.2.1) ss) := by rw [inv]
        _ = _ := by grind
    · rw [hR]
      calc rt * T2 * (pw (·.2.1) rs * pw (·.2.1) ss) = (T2 * pw (·.2.1) ss) * (rt * pw (·.2.1) rs) := by grind
        _ = B2 * pw (·.1) ss * (rt * pw (·.2.1) rs) := by rw [inv2]
        _ = _ := by grind
  have q := k8 e5
  rw [← key] at q
  unfold cmpI at q
  try dsimp only [List.set]
  walk_at "zz"
  refine z_d2 (fun c => ?_) (fun c => ?_)
  · rw [if_pos c] at q
    try dsimp only [List.set]
    walk_at "zz"
    exact q
  · rw [if_neg c] at q
    try dsimp only [List.set]
    walk_at "zz"
    refine z_d2 (fun c => ?_) (fun c => ?_)
    · rw [if_pos c] at q
      try dsimp only [List.set]
      walk_at "zz"
      exact q
    · rw [if_neg c] at q
      try dsimp only [List.set]
      walk_at "zz"
      exact q
theorem c_compare_products (L : Lw K mg) : Cal P w K mg base 5 "compare_products" (sp2 (fs_cp K)) [] := by
  obtain ⟨fd, F⟩ := L.d_compare_products
  exact ⟨⟨_, fd, ["first", "second"], [], ok_compare_products L F, L.g_compare_products, F.kp, F.bindsN (fun _ _ _ _ _ _ us hl => match us, hl with | [_, _], _ => rfl), .nil⟩⟩
end
end T
set_option maxHeartbeats 4000000
namespace T
open PySem PySem.Spec PyProof.Rows L2 Z
def fs_cell : F2 := fun a b H Q _ => ∃ (p : Addr) (k : Int), a = .ref p ∧ b = .int k ∧ IsPool H p ∧ 0 ≤ k ∧ ∀ c, Q (.int c) H
def fs_mod : F2 := fun a b H Q _ => ∃ n m : Int, a = .int n ∧ b = .int m ∧ 0 < m ∧ Q (.int (n % m)) H
theorem u_mod {H : Hp} {Q : VK} {E : XK} {n m : Int} (h : 0 < m) (q : Q (.int (n % m)) H) : sp2 fs_mod [.int n, .int m] H Q E := ⟨_, _, rfl, n, m, rfl, rfl, h, q⟩
def fs_com : F2 := fun a b H Q _ => ∃ n m : Int, a = .int n ∧ b = .int m ∧ 0 < m ∧ Q (.int (Int.gcd n m : Nat)) H
def fs_lp : F2 := fun a b H Q _ => ∃ (x : Int) (e B : Nat), a = .int x ∧ b = .int (e : Int) ∧ Bits B x ∧ 2 * (B * e) + 4 ≤ 800000 ∧ Q (.int (x ^ e)) H
theorem u_lp {H : Hp} {Q : VK} {E : XK} {b : Int} {e B : Nat} (h : Bits B b) (hB : 2 * (B * e) + 4 ≤ 800000) (q : Q (.int (b ^ e)) H) : sp2 fs_lp [.int b, .int (e : Int)] H Q E := ⟨_, _, rfl, b, e, B, rfl, rfl, h, hB, q⟩
def fs_who : F2 := fun a b H Q _ => ∃ n m : Int, a = .int n ∧ b = .int m ∧ Q (.bl (decide (n = m))) H
theorem u_who {H : Hp} {Q : VK} {E : XK} {n m : Int} (q : Q (.bl (decide (n = m))) H) : sp2 fs_who [.int n, .int m] H Q E := ⟨_, _, rfl, n, m, rfl, rfl, q⟩
local macro_rules | `(tactic| walk_at "up") => `(tactic| first
  | assumption
  | (refine' IsR.mono (by assumption) ?zup; case zup => walk_at "up")
  | (refine' IsE.mono (by assumption) ?zup; case zup => walk_at "up")
  | (refine' Same.at (by assumption) ?zup; case zup => walk_at "up")
  | (refine' SqL.of ?zup; case zup => walk_at "up")
  | (refine' L2.Same.seq (by assumption) ?zup; case zup => walk_at "up"))
local macro_rules | `(tactic| walk_at "z") => `(tactic| first
  | ((with_reducible refine' z_var ?zvh ?_); (case zvh => exact rfl))
  | with_reducible refine z_c ?_
  | with_reducible refine z_cons ?_
  | with_reducible refine z_nil ?_
  | with_reducible refine z_op ?_
  | with_reducible refine z_nx ?_
  | with_reducible refine z_seq ?_
  | with_reducible refine z_asg ?_
  | with_reducible refine z_asgG ?_
  | with_reducible refine z_call ?_
  | with_reducible refine z_sq0 ?_
  | with_reducible refine z_sq1 ?_
  | with_reducible refine z_ifS ?_
  | with_reducible refine z_test ?_
  | with_reducible refine z_tb ?_
  | with_reducible refine z_bl ?_
  | with_reducible refine z_blI ?_
  | with_reducible refine z_ret ?_
  | with_reducible refine z_rt ?_
  | with_reducible refine z_T ?_
  | with_reducible refine z_F ?_
  | with_reducible refine z_add ?_
  | with_reducible refine z_sub ?_
  | with_reducible refine z_neg ?_
  | with_reducible refine z_un ?_
  | with_reducible refine z_eqI ?_
  | with_reducible refine z_neI ?_
  | with_reducible refine z_lt ?_
  | with_reducible refine z_le ?_
  | with_reducible refine z_gt ?_
  | with_reducible refine z_ge ?_
  | with_reducible refine z_not ?_
  | with_reducible refine z_and ?_
  | with_reducible refine z_or ?_
  | with_reducible refine z_andV ?_
  | with_reducible refine z_orV ?_
  | with_reducible refine z_notV ?_
  | with_reducible refine z_if ?_
  | with_reducible refine z_cb ?_
  | with_reducible refine z_int1 ?_
  | with_reducible refine z_intb ?_
  | with_reducible refine z_abs ?_
  | with_reducible refine z_gcd ?_
  | with_reducible refine z_isi_ii ?_
  | with_reducible refine z_isi_ib ?_
  | with_reducible refine z_next ?_
  | with_reducible refine z_drop ?_
  | with_reducible refine z_par ?_
  | with_reducible refine z_par2 ?_
  | with_reducible refine z_tupN ?_
  | with_reducible refine z_lstN ?_
  | ((with_reducible refine' z_nt ?zl1 ?_); (case zl1 => exact Nat.le_of_ble_eq_true rfl); intro p H' hp hs he)
  | ((with_reducible refine' z_gtup ?zl1 ?zl2 ?_); (case zl1 => walk_at "up"); (case zl2 => exact rfl))
  | with_reducible refine z_bk ?_
  | with_reducible refine z_ct ?_
  | with_reducible refine z_break ?_
  | with_reducible refine z_cont ?_
  | with_reducible refine z_retN ?_
  | with_reducible refine z_nn ?_
  | with_reducible refine z_mk ?_
  | with_reducible refine z_gn ?_
  | with_reducible refine z_gcons ?_
  | with_reducible refine z_gnil ?_
  | with_reducible refine z_mt ?_
  | with_reducible refine z_mko ?_
  | with_reducible refine z_for2 ?_
  | with_reducible refine z_ownI ?_
  | ((with_reducible refine' z_lenL ?zl1 ?_); (case zl1 => walk_at "up"))
  | ((with_reducible refine' z_ixT ?zl1 ?zl2 ?_); (case zl1 => walk_at "up"); (case zl2 => exact rfl))
  | ((with_reducible refine' z_mulL ?zl1 ?zl2 ?_); (case zl1 => omega); (case zl2 => omega))
  | ((with_reducible refine' z_mulR ?zl1 ?zl2 ?_); (case zl1 => omega); (case zl2 => omega))
  | ((with_reducible refine' z_divS ?zl1 ?zl2 ?_); (case zl1 => omega); (case zl2 => omega))
  | ((with_reducible refine' z_mulW ?zl1 ?zl2 ?zl3 ?zl4 ?_); (case zl1 => omega); (case zl2 => omega); (case zl3 => omega); (case zl4 => omega))
  | ((with_reducible refine' z_divW ?zl1 ?zl2 ?_); (case zl1 => omega); (case zl2 => omega)))
local macro_rules | `(tactic| walk_at "zz") => `(tactic| repeat (walk_at "z"))
local macro_rules | `(tactic| walk_at "z") => `(tactic| with_reducible refine z_lstN ?_)
local macro_rules | `(tactic| walk_at "z") => `(tactic| with_reducible refine z_p6 ?_)
local macro_rules | `(tactic| walk_at "z") => `(tactic| with_reducible refine z_p12 ?_)
local macro_rules | `(tactic| walk_at "z") => `(tactic| with_reducible refine z_p13 ?_)
local macro_rules | `(tactic| walk_at "z") => `(tactic| with_reducible refine z_calln ?_)
local macro_rules | `(tactic| walk_at "z") => `(tactic| with_reducible refine z_xfS ?_)
local macro_rules | `(tactic| walk_at "z") => `(tactic| with_reducible refine z_lcS ?_)
local macro_rules | `(tactic| walk_at "z") => `(tactic| with_reducible refine z_lcRS ?_)
local macro_rules | `(tactic| walk_at "z") => `(tactic| with_reducible refine z_lcZS ?_)
local macro_rules | `(tactic| walk_at "z") => `(tactic| with_reducible refine z_foS ?_)
local macro_rules | `(tactic| walk_at "z") => `(tactic| with_reducible refine z_for1 ?_)
local macro_rules | `(tactic| walk_at "z") => `(tactic| with_reducible refine z_tsl ?_)
local macro_rules | `(tactic| walk_at "z") => `(tactic| with_reducible refine z_np ?_)
local macro_rules | `(tactic| walk_at "z") => `(tactic| with_reducible refine z_pt ?_)
local macro_rules | `(tactic| walk_at "z") => `(tactic| with_reducible refine z_pti ?_)
local macro_rules | `(tactic| walk_at "z") => `(tactic| with_reducible refine z_catI ?_)
local macro_rules | `(tactic| walk_at "z") => `(tactic| with_reducible refine z_isNI ?_)
local macro_rules | `(tactic| walk_at "z") => `(tactic| with_reducible refine z_isNN ?_)
local macro_rules | `(tactic| walk_at "z") => `(tactic| with_reducible refine z_notNI ?_)
local macro_rules | `(tactic| walk_at "z") => `(tactic| with_reducible refine z_notNN ?_)
local macro_rules | `(tactic| walk_at "z") => `(tactic| with_reducible refine z_gsub ?_)
local macro_rules | `(tactic| walk_at "z") => `(tactic| with_reducible refine z_isNb ?_)
local macro_rules | `(tactic| walk_at "z") => `(tactic| with_reducible refine z_notNb ?_)
local macro_rules | `(tactic| walk_at "z") => `(tactic| ((with_reducible refine' z_nlR ?zl1 ?_); (case zl1 => exact Nat.le_of_ble_eq_true rfl); intro p H' hp hs he))
local macro_rules | `(tactic| walk_at "z") => `(tactic| ((with_reducible refine' z_repR ?zl1 ?zl2 ?_); (case zl1 => omega); (case zl2 => omega)))
local macro_rules | `(tactic| walk_at "z") => `(tactic| ((with_reducible refine' z_repL ?zl1 ?zl2 ?_); (case zl1 => omega); (case zl2 => omega)))
local macro_rules | `(tactic| walk_at "z") => `(tactic| ((with_reducible refine' z_lenLst ?zl1 ?_); (case zl1 => walk_at "up")))
local macro_rules | `(tactic| walk_at "z") => `(tactic| ((with_reducible refine' z_cat ?zl1 ?zl2 ?zl3 ?_); (case zl1 => walk_at "up"); (case zl2 => walk_at "up"); (case zl3 => (simp only [List.length_map, List.length_cons, List.length_nil, List.length_append, List.length_replicate]; omega)); intro p H' hp hs he))
local macro_rules | `(tactic| walk_at "z") => `(tactic| with_reducible refine z_sfl ?_)
local macro_rules | `(tactic| walk_at "z") => `(tactic| with_reducible refine z_lcES ?_)
local macro_rules | `(tactic| walk_at "z") => `(tactic| with_reducible refine z_lcMS ?_)
local macro_rules | `(tactic| walk_at "z") => `(tactic| with_reducible refine z_foES ?_)
local macro_rules | `(tactic| walk_at "z") => `(tactic| with_reducible refine z_fo3S ?_)
local macro_rules | `(tactic| walk_at "z") => `(tactic| with_reducible refine z_sta ?_)
local macro_rules | `(tactic| walk_at "z") => `(tactic| with_reducible refine z_sta1 ?_)
local macro_rules | `(tactic| walk_at "z") => `(tactic| with_reducible refine z_lcTS ?_)
local macro_rules | `(tactic| walk_at "z") => `(tactic| with_reducible refine z_foTS ?_)
local macro_rules | `(tactic| walk_at "z") => `(tactic| with_reducible refine z_revTS ?_)
local macro_rules | `(tactic| walk_at "z") => `(tactic| with_reducible refine z_max2 ?_)
local macro_rules | `(tactic| walk_at "z") => `(tactic| ((with_reducible refine' z_fldt ?zc1 ?zc2 ?zl1 ?zl2 ?_); (case zc1 => exact Lw.cl_Ratio (by assumption)); (case zc2 => exact Lw.na_Ratio_top (by assumption)); (case zl1 => exact rfl); (case zl2 => walk_at "up")))
local macro_rules | `(tactic| walk_at "z") => `(tactic| ((with_reducible refine' z_fldb ?zc1 ?zc2 ?zl1 ?zl2 ?_); (case zc1 => exact Lw.cl_Ratio (by assumption)); (case zc2 => exact Lw.na_Ratio_bottom (by assumption)); (case zl1 => exact rfl); (case zl2 => walk_at "up")))
local macro_rules | `(tactic| walk_at "z") => `(tactic| ((with_reducible refine' u_mtF ?zl1 ?_); (case zl1 => walk_at "up")))
local macro_rules | `(tactic| walk_at "z") => `(tactic| ((with_reducible refine' z_ixLst ?zl1 ?zl2 ?_); (case zl1 => walk_at "up"); (case zl2 => exact rfl)))
local macro_rules | `(tactic| walk_at "z") => `(tactic| with_reducible refine z_for3 ?_)
local macro_rules | `(tactic| walk_at "z") => `(tactic| with_reducible refine z_tbits ?_)
local macro_rules | `(tactic| walk_at "z") => `(tactic| with_reducible refine z_tbi ?_)
local macro_rules | `(tactic| walk_at "z") => `(tactic| ((with_reducible refine' z_div2S ?zl1 ?zl2 ?_); (case zl1 => omega); (case zl2 => omega)))
local macro_rules | `(tactic| walk_at "z") => `(tactic| ((with_reducible refine' u_mod ?zl1 ?_); (case zl1 => omega)))
local macro_rules | `(tactic| walk_at "z") => `(tactic| with_reducible refine u_who ?_)
local macro_rules | `(tactic| walk_at "z") => `(tactic| with_reducible refine z_asg2 ?_)
theorem same02e {H H1 H2 : Hp} (h : Same H1 H2) (e : Same H H1) : Same H H2 := e.trans h
local macro_rules | `(tactic| walk_at "sm") => `(tactic| first
  | assumption
  | exact fun _ _ h => h
  | (refine' same02e (by assumption) ?zsm; case zsm => walk_at "sm"))
local macro_rules | `(tactic| walk_at "up") => `(tactic| first
  | assumption
  | (with_reducible refine' IsR.mono (by assumption) ?zup; case zup => walk_at "up")
  | (with_reducible refine' Fr.mono (by assumption) ?zup; case zup => walk_at "up")
  | (with_reducible refine' Same.at (by assumption) ?zup; case zup => walk_at "up")
  | (with_reducible refine' Facs.mono (by assumption) ?zup; case zup => walk_at "up")
  | (with_reducible refine' IsPool.mono (by assumption) ?zup; case zup => walk_at "up")
  | fail)
section
variable {P : Program} {w : World} {K : Frag} {mg : Str → Option Value} {base : Heap}
theorem ok_law_cell (L : Lw K mg) {fd : FuncData} (F : FunD K "_law_cell" "_law_cell" (defArgs s_law_cell) (defBody s_law_cell) (defScope s_law_cell) (df_law_cell.dvs K) (df_law_cell.kws K) (He.fAd K ("_law_cell", none)) fd) : FnOk P w K mg base (L2N.CX P w) 1 (He.fAd K ("_law_cell", none)) fd (["script", "k"] : List Str) (sp2 fs_cell) := by
  refine FunD.ok F sc_law_cell len2 (fun cdv A outer s H vs Q E hr h => ?_)
  obtain ⟨a, b, rfl, h⟩ := h
  refine ⟨_, (pss_cons (ps_if (pt_cmpR o_lt (pv 1) (pe_callB (callK rLen1 (K := K) rfl o_len) (by rfl) L.f_len (by decide +kernel) (pa_cons (pv 0) pa_nil)) (nomark _)) (pss_one (ps_ret (pe_ix (ix_seqK (K := K) rfl) (pv 0) (pv 1) (fun _ _ => rfl)))) pss_nil)
    (pss_one (ps_ret pe_int))), ?_⟩
  obtain ⟨p, k, rfl, rfl, ⟨ns, hp⟩, k0, q⟩ := h
  walk_at "zz"
  refine z_d2 (fun c => ?_) (fun c => ?_)
  · walk_at "zz"
    refine z_ixL (SqL.of hp) (cell_at k0 c) ?_
    exact q _
  · walk_at "zz"
    exact q _
theorem c_law_cell (L : Lw K mg) : Cal P w K mg base 1 "_law_cell" (sp2 fs_cell) [] := by
  obtain ⟨fd, F⟩ := L.d_law_cell
  exact ⟨⟨_, fd, ["script", "k"], [], ok_law_cell L F, L.g_law_cell, F.kp, F.bindsN (fun _ _ _ _ _ _ us hl => match us, hl with | [_, _], _ => rfl), .nil⟩⟩
theorem ok_law_mod (L : Lw K mg) {fd : FuncData} (F : FunD K "_law_mod" "_law_mod" (defArgs s_law_mod) (defBody s_law_mod) (defScope s_law_mod) (df_law_mod.dvs K) (df_law_mod.kws K) (He.fAd K ("_law_mod", none)) fd) : FnOk P w K mg base (L2N.CX P w) 1 (He.fAd K ("_law_mod", none)) fd (["number", "size"] : List Str) (sp2 fs_mod) := by
  refine FunD.ok F sc_law_mod len2 (fun cdv A outer s H vs Q E hr h => ?_)
  obtain ⟨a, b, rfl, h⟩ := h
  refine ⟨_, (pss_one (ps_ret (pe_op o_mod (pe_callTy o_int1 (by rfl) L.f_int (by decide +kernel) (pa_cons (pv 0) pa_nil)) (pv 1)))), ?_⟩
  obtain ⟨n, m, rfl, rfl, h, q⟩ := h
  walk_at "zz"
  refine z_mod h ?_
  exact q
theorem c_law_mod (L : Lw K mg) : Cal P w K mg base 1 "_law_mod" (sp2 fs_mod) [] := by
  obtain ⟨fd, F⟩ := L.d_law_mod
  exact ⟨⟨_, fd, ["number", "size"], [], ok_law_mod L F, L.g_law_mod, F.kp, F.bindsN (fun _ _ _ _ _ _ us hl => match us, hl with | [_, _], _ => rfl), .nil⟩⟩
theorem ch_law_mod (L : Lw K mg) : CalH P w K mg base 1 "_law_mod" (sp2 fs_mod) := by
  obtain ⟨fd, F⟩ := L.d_law_mod
  refine ⟨_, fd, ["number", "size"], okH F sc_law_mod len2 (fun cdv A outer s H vs Q E p hot1 hrH h => ?_), L.g_law_mod, F.kp, F.bindsN (fun _ _ _ _ _ _ us hl => match us, hl with | [_, _], _ => rfl)⟩
  obtain ⟨a, b, rfl, h⟩ := h
  refine ⟨_, (pss_one (ps_ret (pe_op o_mod (pe_callTy o_int1 (by rfl) L.f_int (by decide +kernel) (pa_cons (pv 0) pa_nil)) (pv 1)))), ?_⟩
  obtain ⟨n, m, rfl, rfl, h, q⟩ := h
  walk_at "zz"
  refine z_mod h ?_
  exact q
theorem ok_law_common (L : Lw K mg) {fd : FuncData} (F : FunD K "_law_common" "_law_common" (defArgs s_law_common) (defBody s_law_common) (defScope s_law_common) (df_law_common.dvs K) (df_law_common.kws K) (He.fAd K ("_law_common", none)) fd) : FnOk P w K mg base (L2N.CX P w) 2 (He.fAd K ("_law_common", none)) fd (["one", "two"] : List Str) (sp2 fs_com) := by
  refine FunD.ok F sc_law_common len2 (fun cdv A outer s H vs Q E hr h => ?_)
  obtain ⟨a, b, rfl, h⟩ := h
  refine ⟨_, (pss_cons (ps_set (i := 0) sc_law_common.nd rfl (by first | exact Or.inl rfl | exact Or.inr rfl) (pe_callB o_abs (by rfl) L.f_abs (by decide +kernel) (pa_cons (pv 0) pa_nil)))
    (pss_cons (ps_while (passes_of rfl) (pt_cmpR op_ne (pv 1) pe_int (nomark _)) (pss_cons (ps_set (i := 2) sc_law_common.nd rfl (by first | exact Or.inl rfl | exact Or.inr rfl) (pe_c (c_law_mod (K := K) L) hr (by decide) (L2N.takes_of rfl rfl rfl rfl) (pa_cons (pv 0) (pa_cons (pv 1) pa_nil))))
    (pss_cons (ps_set (i := 0) sc_law_common.nd rfl (by first | exact Or.inl rfl | exact Or.inr rfl) (pv 1))
    (pss_one (ps_set (i := 1) sc_law_common.nd rfl (by first | exact Or.inl rfl | exact Or.inr rfl) (pv 2))))))
    (pss_one (ps_ret (pv 0))))), ?_⟩
  obtain ⟨n, m, rfl, rfl, h, q⟩ := h
  obtain ⟨m, rfl⟩ : ∃ k : Nat, m = (k : Int) := ⟨m.toNat, by omega⟩
  walk_at "zz"
  refine z_while (fun v σ' H' => ∃ (a b : Nat) (x2 : Option V), σ' = [some (.int (a : Int)), some (.int (b : Int)), x2] ∧ H = H' ∧ Nat.gcd a b = Int.gcd n m ∧ b = v) m ⟨n.natAbs, m, _, rfl, rfl, rfl, rfl⟩ ?_
  rintro v σ' H' ⟨a, b, x2, rfl, rfl, hg, rfl⟩
  walk_at "zz"
  refine z_d2 (fun c0 => ?_) (fun c0 => ?_)
  · have b0 : b = 0 := by omega
    subst b0
    walk_at "zz"
    rw [show a = Int.gcd n m from by rw [← hg, Nat.gcd_zero_right]]
    exact q
  · refine ⟨_, fun _ _ h => h, ?_⟩
    walk_at "zz"
    exact ⟨a % b, Nat.mod_lt _ (by omega), b, a % b, _, by rw [Int.natCast_emod] <;> rfl, rfl, by rw [← hg, Nat.gcd_comm b, ← Nat.gcd_rec, Nat.gcd_comm], rfl⟩
theorem c_law_common (L : Lw K mg) : Cal P w K mg base 2 "_law_common" (sp2 fs_com) [] := by
  obtain ⟨fd, F⟩ := L.d_law_common
  exact ⟨⟨_, fd, ["one", "two"], [], ok_law_common L F, L.g_law_common, F.kp, F.bindsN (fun _ _ _ _ _ _ us hl => match us, hl with | [_, _], _ => rfl), .nil⟩⟩
theorem ch_law_common (L : Lw K mg) : CalH P w K mg base 2 "_law_common" (sp2 fs_com) := by
  obtain ⟨fd, F⟩ := L.d_law_common
  refine ⟨_, fd, ["one", "two"], okH F sc_law_common len2 (fun cdv A outer s H vs Q E p hot1 hrH h => ?_), L.g_law_common, F.kp, F.bindsN (fun _ _ _ _ _ _ us hl => match us, hl with | [_, _], _ => rfl)⟩
  obtain ⟨a, b, rfl, h⟩ := h
  refine ⟨_, (pss_cons (ps_set (i := 0) sc_law_common.nd rfl (by first | exact Or.inl rfl | exact Or.inr rfl) (pe_callB o_abs (by rfl) L.f_abs (by decide +kernel) (pa_cons (pv 0) pa_nil)))
    (pss_cons (ps_while (passes_of rfl) (pt_cmpR op_ne (pv 1) pe_int (nomark _)) (pss_cons (ps_set (i := 2) sc_law_common.nd rfl (by first | exact Or.inl rfl | exact Or.inr rfl) (pe_ch (ch_law_mod (K := K) L) hrH (by decide) (hot_in hot1) (pa_cons (pv 0) (pa_cons (pv 1) pa_nil))))
    (pss_cons (ps_set (i := 0) sc_law_common.nd rfl (by first | exact Or.inl rfl | exact Or.inr rfl) (pv 1))
    (pss_one (ps_set (i := 1) sc_law_common.nd rfl (by first | exact Or.inl rfl | exact Or.inr rfl) (pv 2))))))
    (pss_one (ps_ret (pv 0))))), ?_⟩
  obtain ⟨n, m, rfl, rfl, h, q⟩ := h
  obtain ⟨m, rfl⟩ : ∃ k : Nat, m = (k : Int) := ⟨m.toNat, by omega⟩
  walk_at "zz"
  refine z_while (fun v σ' H' => ∃ (a b : Nat) (x2 : Option V), σ' = [some (.int (a : Int)), some (.int (b : Int)), x2] ∧ H = H' ∧ Nat.gcd a b = Int.gcd n m ∧ b = v) m ⟨n.natAbs, m, _, rfl, rfl, rfl, rfl⟩ ?_
  rintro v σ' H' ⟨a, b, x2, rfl, rfl, hg, rfl⟩
  walk_at "zz"
  refine z_d2 (fun c0 => ?_) (fun c0 => ?_)
  · have b0 : b = 0 := by omega
    subst b0
    walk_at "zz"
    rw [show a = Int.gcd n m from by rw [← hg, Nat.gcd_zero_right]]
    exact q
  · refine ⟨_, fun _ _ h => h, ?_⟩
    walk_at "zz"
    exact ⟨a % b, Nat.mod_lt _ (by omega), b, a % b, _, by rw [Int.natCast_emod] <;> rfl, rfl, by rw [← hg, Nat.gcd_comm b, ← Nat.gcd_rec, Nat.gcd_comm], rfl⟩
theorem ok_law_power (L : Lw K mg) {fd : FuncData} (F : FunD K "_law_power" "_law_power" (defArgs s_law_power) (defBody s_law_power) (defScope s_law_power) (df_law_power.dvs K) (df_law_power.kws K) (He.fAd K ("_law_power", none)) fd) : FnOk P w K mg base (L2N.CX P w) 2 (He.fAd K ("_law_power", none)) fd (["base", "count"] : List Str) (sp2 fs_lp) := by
  refine FunD.ok F sc_law_power len2 (fun cdv A outer s H vs Q E hr h => ?_)
  obtain ⟨a, b, rfl, h⟩ := h
  refine ⟨_, (pss_cons (ps_set (i := 2) sc_law_power.nd rfl (by first | exact Or.inl rfl | exact Or.inr rfl) pe_int)
    (pss_cons (ps_while (passes_of rfl) (pt_cmpR o_gt (pv 1) pe_int (nomark _)) (pss_cons (ps_if (pt_cmpR op_eq (pe_c (c_law_mod (K := K) L) hr (by decide) (L2N.takes_of rfl rfl rfl rfl) (pa_cons (pv 1) (pa_cons pe_int pa_nil))) pe_int (nomark _)) (pss_one (ps_set (i := 2) sc_law_power.nd rfl (by first | exact Or.inl rfl | exact Or.inr rfl) (pe_op o_rep (pv 2) (pv 0)))) pss_nil)
    (pss_cons (ps_set (i := 0) sc_law_power.nd rfl (by first | exact Or.inl rfl | exact Or.inr rfl) (pe_op o_rep (pv 0) (pv 0)))
    (pss_one (ps_set (i := 1) sc_law_power.nd rfl (by first | exact Or.inl rfl | exact Or.inr rfl) (pe_op o_div (pv 1) pe_int))))))
    (pss_one (ps_ret (pv 2))))), ?_⟩
  obtain ⟨x, e, B, rfl, rfl, hb, hB, k⟩ := h
  walk_at "zz"
  refine z_while (fun v σ' H' => ∃ (ba tot : Int) (c i j : Nat), σ' = [some (.int ba), some (.int (c : Int)), some (.int tot)] ∧ H = H' ∧ ba = x ^ (2 ^ i) ∧ tot = x ^ j ∧ j + c * 2 ^ i = e ∧ c = v) e ⟨x, 1, e, 0, 0, rfl, rfl, by rw [Nat.pow_zero, Int.pow_succ, Int.pow_zero, Int.one_mul], by rw [Int.pow_zero], by omega, rfl⟩ ?_
  rintro v σ' H' ⟨ba, tot, c, i, j, rfl, rfl, hba, htot, hj, rfl⟩
  walk_at "zz"
  refine z_d2 (fun c0 => ?_) (fun c0 => ?_)
  · refine ⟨_, fun _ _ h => h, ?_⟩
    have ci : 2 ^ i ≤ c * 2 ^ i := Nat.le_mul_of_pos_left _ (by omega)
    have b1 : Bits (B * 2 ^ i + 1) ba := by rw [hba]; exact bpow hb _
    have b2 : Bits (B * j + 1) tot := by rw [htot]; exact bpow hb _
    have s1 : B * 2 ^ i ≤ B * e := Nat.mul_le_mul_left _ (by omega)
    have s2 : B * j ≤ B * e := Nat.mul_le_mul_left _ (by omega)
    have nx : ∀ j', (c % 2 = 1 → j' = j + 2 ^ i) → (c % 2 ≠ 1 → j' = j) → j' + c / 2 * 2 ^ (i + 1) = e := fun j' h1 h2 => by
      have p := Nat.div_add_mod c 2
      have e1 : c / 2 * 2 ^ (i + 1) = 2 * (c / 2) * 2 ^ i := by
        rw [Nat.pow_succ, Nat.mul_comm (2 ^ i) 2, ← Nat.mul_assoc, Nat.mul_comm (c / 2) 2]
      have e2 : 2 * (c / 2) * 2 ^ i + c % 2 * 2 ^ i = c * 2 ^ i := by rw [← Nat.add_mul, p]
      rw [e1]
      rcases Nat.mod_two_eq_zero_or_one c with q | q
      · rw [h2 (by omega)]
        rw [q] at e2
        omega
      · rw [h1 q]
        rw [q] at e2
        omega
    have eb : ba * ba = x ^ (2 ^ (i + 1)) := by
      rw [hba, ← Int.pow_add, Nat.pow_succ, Nat.mul_two]
    have ec : (c : Int) / 2 = ((c / 2 : Nat) : Int) := by omega
    have REST : True := trivial
    walk_at "zz"
    refine z_d2 (fun c1 => ?_) (fun c1 => ?_)
    · walk_at "zz"
      refine z_repU0 b2 b1 (by omega) ?_
      walk_at "zz"
      refine z_repU0 b1 b1 (by omega) ?_
      walk_at "zz"
      rw [ec]
      exact ⟨c / 2, by omega, ba * ba, tot * ba, c / 2, i + 1, j + 2 ^ i, rfl, rfl, eb, by rw [htot, hba, Int.pow_add], nx _ (fun _ => rfl) (fun z => absurd (by omega) z), rfl⟩
    · walk_at "zz"
      refine z_repU0 b1 b1 (by omega) ?_
      walk_at "zz"
      rw [ec]
      exact ⟨c / 2, by omega, ba * ba, tot, c / 2, i + 1, j, rfl, rfl, eb, htot, nx _ (fun z => absurd z (by omega)) (fun _ => rfl), rfl⟩
  · have c00 : c = 0 := by omega
    subst c00
    walk_at "zz"
    rw [htot, show j = e by omega]
    exact k
theorem c_law_power (L : Lw K mg) : Cal P w K mg base 2 "_law_power" (sp2 fs_lp) [] := by
  obtain ⟨fd, F⟩ := L.d_law_power
  exact ⟨⟨_, fd, ["base", "count"], [], ok_law_power L F, L.g_law_power, F.kp, F.bindsN (fun _ _ _ _ _ _ us hl => match us, hl with | [_, _], _ => rfl), .nil⟩⟩
theorem ok_law_whole (L : Lw K mg) {fd : FuncData} (F : FunD K "_law_whole" "_law_whole" (defArgs s_law_whole) (defBody s_law_whole) (defScope s_law_whole) (df_law_whole.dvs K) (df_law_whole.kws K) (He.fAd K ("_law_whole", none)) fd) : FnOk P w K mg base (L2N.CX P w) 1 (He.fAd K ("_law_whole", none)) fd (["actual", "due"] : List Str) (sp2 fs_who) := by
  refine FunD.ok F sc_law_whole len2 (fun cdv A outer s H vs Q E hr h => ?_)
  obtain ⟨a, b, rfl, h⟩ := h
  refine ⟨_, (pss_one (ps_ret (pe_and (pe_callB (callK rIsi (K := K) rfl call_isi) (by rfl) L.f_isinstance (by decide +kernel) (pa_cons (pv 0) (pa_cons (pe_ty "int" (by rfl) L.f_int (by decide +kernel)) pa_nil))) (pe_and (pe_not (pe_callB (callK rIsi (K := K) rfl call_isi) (by rfl) L.f_isinstance (by decide +kernel) (pa_cons (pv 0) (pa_cons (pe_ty "bool" (by rfl) L.f_bool (by decide +kernel)) pa_nil)))) (pe_one (pe_cmpR op_eq (pv 0) (pv 1) (nomark _))))))), ?_⟩
  obtain ⟨n, m, rfl, rfl, q⟩ := h
  walk_at "zz"
  exact q
theorem c_law_whole (L : Lw K mg) : Cal P w K mg base 1 "_law_whole" (sp2 fs_who) [] := by
  obtain ⟨fd, F⟩ := L.d_law_whole
  exact ⟨⟨_, fd, ["actual", "due"], [], ok_law_whole L F, L.g_law_whole, F.kp, F.bindsN (fun _ _ _ _ _ _ us hl => match us, hl with | [_, _], _ => rfl), .nil⟩⟩
theorem ch_law_whole (L : Lw K mg) : CalH P w K mg base 1 "_law_whole" (sp2 fs_who) := by
  obtain ⟨fd, F⟩ := L.d_law_whole
  refine ⟨_, fd, ["actual", "due"], okH F sc_law_whole len2 (fun cdv A outer s H vs Q E p hot1 hrH h => ?_), L.g_law_whole, F.kp, F.bindsN (fun _ _ _ _ _ _ us hl => match us, hl with | [_, _], _ => rfl)⟩
  obtain ⟨a, b, rfl, h⟩ := h
  refine ⟨_, (pss_one (ps_ret (pe_and (pe_callB (callK rIsi (K := K) rfl call_isi) (by rfl) L.f_isinstance (by decide +kernel) (pa_cons (pv 0) (pa_cons (pe_ty "int" (by rfl) L.f_int (by decide +kernel)) pa_nil))) (pe_and (pe_not (pe_callB (callK rIsi (K := K) rfl call_isi) (by rfl) L.f_isinstance (by decide +kernel) (pa_cons (pv 0) (pa_cons (pe_ty "bool" (by rfl) L.f_bool (by decide +kernel)) pa_nil)))) (pe_one (pe_cmpR op_eq (pv 0) (pv 1) (nomark _))))))), ?_⟩
  obtain ⟨n, m, rfl, rfl, q⟩ := h
  walk_at "zz"
  exact q
end
end T
set_option maxHeartbeats 4000000
namespace T
open PySem PySem.Spec PyProof.Rows L2 Z
theorem dvd_cop {b t w : Int} (g : Int.gcd t b = 1) (h : b ∣ t * w) : b ∣ w := by
  have h2 : b.natAbs ∣ t.natAbs * w.natAbs := by
    rw [← Int.natAbs_mul]
    exact Int.natAbs_dvd_natAbs.mpr h
  have c : Nat.Coprime b.natAbs t.natAbs := by
    have : Nat.gcd t.natAbs b.natAbs = 1 := g
    rw [Nat.coprime_iff_gcd_eq_one, Nat.gcd_comm]
    exact this
  exact Int.natAbs_dvd_natAbs.mp (Nat.Coprime.dvd_of_dvd_mul_left c h2)
theorem fr_red {t b T w : Int} (b0 : 0 < b) (w0 : 0 < w) (g : Int.gcd t b = 1) (e : t * w = T * b) : T / (Int.gcd T w : Nat) = t ∧ w / (Int.gcd T w : Nat) = b ∧ T = t * (Int.gcd T w : Nat) ∧ w = b * (Int.gcd T w : Nat) ∧ 0 < Int.gcd T w := by
  have d : b ∣ w := dvd_cop g (by rw [e]; exact Int.dvd_mul_left _ _)
  obtain ⟨c, rfl⟩ := d
  have c0 : 0 < c := Int.pos_of_mul_pos_right w0 (by omega)
  have eT : T = t * c := by
    refine Int.eq_of_mul_eq_mul_right (show b ≠ 0 by omega) ?_
    rw [← e]
    grind
  subst eT
  have eg : ((Int.gcd (t * c) (b * c) : Nat) : Int) = c := by
    rw [Int.gcd_mul_right, g, Nat.one_mul]
    omega
  rw [eg]
  refine ⟨Int.mul_ediv_cancel _ (by omega), Int.mul_ediv_cancel _ (by omega), rfl, rfl, by omega⟩
def fs_lis (K : Frag) : F3 := fun x y z H Q _ => ∃ (a : Addr) (T w : Int) (B : Nat), x = .ref a ∧ y = .int T ∧ z = .int w ∧ Fr K H a T w ∧ 0 < w ∧ Bits B w ∧ B ≤ 8999 ∧ Q (.bl true) H
theorem u_lis {K : Frag} {H : Hp} {Q : VK} {E : XK} {a : Addr} {T w : Int} {B : Nat} (h : Fr K H a T w) (w0 : 0 < w) (bw : Bits B w) (hB : B ≤ 8999) (q : Q (.bl true) H) : sp3 (fs_lis K) [.ref a, .int T, .int w] H Q E := ⟨_, _, _, rfl, a, T, w, B, rfl, rfl, rfl, h, w0, bw, hB, q⟩
def fs_lb (K : Frag) : F5 := fun x y z u v H Q _ => ∃ (a : Addr) (T w g : Int) (r k B G D : Nat), x = .ref a ∧ y = .int T ∧ z = .int w ∧ u = .int (k : Int) ∧ v = .int g ∧ Fr K H a r g ∧ 0 < g ∧ 0 < w ∧ (r : Int) ^ k * w ≤ T * g ^ k ∧ T * g ^ k < ((r : Int) + 1) ^ k * w ∧
  Bits B T ∧ Bits B w ∧ Bits G g ∧ Bits D (r : Int) ∧ B ≤ 8000 ∧ G ≤ 8000 ∧ 1 ≤ D ∧ D ≤ 8000 ∧ G * k ≤ 200000 ∧ (D + 1) * k ≤ 200000 ∧ Q (.bl true) H
theorem count_eq {t b g : Int} {r : Nat} (b0 : 0 < b) (gg : Int.gcd t b = 1) (e : t * g = r * b) : g % b = 0 ∧ t * (g / b) = r := by
  have d : b ∣ g := dvd_cop gg (by rw [e]; exact Int.dvd_mul_left _ _)
  refine ⟨Int.emod_eq_zero_of_dvd d, ?_⟩
  obtain ⟨c, rfl⟩ := d
  rw [Int.mul_ediv_cancel_left _ (by omega)]
  refine Int.eq_of_mul_eq_mul_right (show b ≠ 0 by omega) ?_
  rw [← e]
  grind
def fs_lrt : F2 := fun x y H Q _ => ∃ (N K b : Nat), x = .int (N : Int) ∧ y = .int ((K + 1 : Nat) : Int) ∧ N < 2 ^ b ∧ b + 2 * (K + 1) ≤ 190000 ∧ ∀ r : Nat, S02.Rt N r (K + 1) → Q (.int (r : Int)) H
theorem two_pow_lt {h K b N : Nat} (h1 : ((2 : Int) ^ h) ^ (K + 1) ≤ N) (hN : N < 2 ^ b) : h * (K + 1) < b := by
  refine Nat.not_le.mp fun q => ?_
  have e : (2 : Nat) ^ b ≤ (2 ^ h) ^ (K + 1) := by
    rw [← Nat.pow_mul]
    exact Nat.pow_le_pow_right (by decide) q
  have : ((2 ^ b : Nat) : Int) ≤ ((2 : Int) ^ h) ^ (K + 1) := by
    rw [← two_cast h, ← Int.natCast_pow]
    exact_mod_cast e
  omega
theorem two_bits (h : Nat) : Bits (h + 1) ((2 : Int) ^ h) := bits_of_le (Int.le_of_lt (Int.pow_pos (by decide))) (Int.le_refl _)
theorem hh_le (h K : Nat) : h ≤ h * (K + 1) := Nat.le_mul_of_pos_right _ (Nat.succ_pos K)
def fs_lx (K : Frag) : F4 := fun x y z u H Q _ => ∃ (T w t b : Int) (k B : Nat), y = .int T ∧ z = .int w ∧ u = .int (k : Int) ∧ 0 < k ∧ 0 ≤ T ∧ 0 < w ∧ 0 < b ∧ t * w = T * b ∧ Int.gcd t b = 1 ∧ Bits B T ∧ Bits B w ∧ 1 ≤ B ∧ B ≤ 8000 ∧ k ≤ 5000 ∧
  (x = .non ∧ (¬ ∃ r s : Nat, (r : Int) ^ k = t ∧ (s : Int) ^ k = b) ∨ ∃ (a : Addr) (r s : Nat), x = .ref a ∧ (r : Int) ^ k = t ∧ (s : Int) ^ k = b ∧ Fr K H a r s) ∧ Q (.bl true) H
local macro_rules | `(tactic| walk_at "up") => `(tactic| first
  | assumption
  | (refine' IsR.mono (by assumption) ?zup; case zup => walk_at "up")
  | (refine' IsE.mono (by assumption) ?zup; case zup => walk_at "up")
  | (refine' Same.at (by assumption) ?zup; case zup => walk_at "up")
  | (refine' SqL.of ?zup; case zup => walk_at "up")
  | (refine' L2.Same.seq (by assumption) ?zup; case zup => walk_at "up"))
local macro_rules | `(tactic| walk_at "z") => `(tactic| first
  | ((with_reducible refine' z_var ?zvh ?_); (case zvh => exact rfl))
  | with_reducible refine z_c ?_
  | with_reducible refine z_cons ?_
  | with_reducible refine z_nil ?_
  | with_reducible refine z_op ?_
  | with_reducible refine z_nx ?_
  | with_reducible refine z_seq ?_
  | with_reducible refine z_asg ?_
  | with_reducible refine z_asgG ?_
  | with_reducible refine z_call ?_
  | with_reducible refine z_sq0 ?_
  | with_reducible refine z_sq1 ?_
  | with_reducible refine z_ifS ?_
  | with_reducible refine z_test ?_
  | with_reducible refine z_tb ?_
  | with_reducible refine z_bl ?_
  | with_reducible refine z_blI ?_
  | with_reducible refine z_ret ?_
  | with_reducible refine z_rt ?_
  | with_reducible refine z_T ?_
  | with_reducible refine z_F ?_
  | with_reducible refine z_add ?_
  | with_reducible refine z_sub ?_
  | with_reducible refine z_neg ?_
  | with_reducible refine z_un ?_
  | with_reducible refine z_eqI ?_
  | with_reducible refine z_neI ?_
  | with_reducible refine z_lt ?_
  | with_reducible refine z_le ?_
  | with_reducible refine z_gt ?_
  | with_reducible refine z_ge ?_
  | with_reducible refine z_not ?_
  | with_reducible refine z_and ?_
  | with_reducible refine z_or ?_
  | with_reducible refine z_andV ?_
  | with_reducible refine z_orV ?_
  | with_reducible refine z_notV ?_
  | with_reducible refine z_if ?_
  | with_reducible refine z_cb ?_
  | with_reducible refine z_int1 ?_
  | with_reducible refine z_intb ?_
  | with_reducible refine z_abs ?_
  | with_reducible refine z_gcd ?_
  | with_reducible refine z_isi_ii ?_
  | with_reducible refine z_isi_ib ?_
  | with_reducible refine z_next ?_
  | with_reducible refine z_drop ?_
  | with_reducible refine z_par ?_
  | with_reducible refine z_par2 ?_
  | with_reducible refine z_tupN ?_
  | with_reducible refine z_lstN ?_
  | ((with_reducible refine' z_nt ?zl1 ?_); (case zl1 => exact Nat.le_of_ble_eq_true rfl); intro p H' hp hs he)
  | ((with_reducible refine' z_gtup ?zl1 ?zl2 ?_); (case zl1 => walk_at "up"); (case zl2 => exact rfl))
  | with_reducible refine z_bk ?_
  | with_reducible refine z_ct ?_
  | with_reducible refine z_break ?_
  | with_reducible refine z_cont ?_
  | with_reducible refine z_retN ?_
  | with_reducible refine z_nn ?_
  | with_reducible refine z_mk ?_
  | with_reducible refine z_gn ?_
  | with_reducible refine z_gcons ?_
  | with_reducible refine z_gnil ?_
  | with_reducible refine z_mt ?_
  | with_reducible refine z_mko ?_
  | with_reducible refine z_for2 ?_
  | with_reducible refine z_ownI ?_
  | ((with_reducible refine' z_lenL ?zl1 ?_); (case zl1 => walk_at "up"))
  | ((with_reducible refine' z_ixT ?zl1 ?zl2 ?_); (case zl1 => walk_at "up"); (case zl2 => exact rfl))
  | ((with_reducible refine' z_mulL ?zl1 ?zl2 ?_); (case zl1 => omega); (case zl2 => omega))
  | ((with_reducible refine' z_mulR ?zl1 ?zl2 ?_); (case zl1 => omega); (case zl2 => omega))
  | ((with_reducible refine' z_divS ?zl1 ?zl2 ?_); (case zl1 => omega); (case zl2 => omega))
  | ((with_reducible refine' z_mulW ?zl1 ?zl2 ?zl3 ?zl4 ?_); (case zl1 => omega); (case zl2 => omega); (case zl3 => omega); (case zl4 => omega))
  | ((with_reducible refine' z_divW ?zl1 ?zl2 ?_); (case zl1 => omega); (case zl2 => omega)))
local macro_rules | `(tactic| walk_at "zz") => `(tactic| repeat (walk_at "z"))
local macro_rules | `(tactic| walk_at "z") => `(tactic| with_reducible refine z_lstN ?_)
local macro_rules | `(tactic| walk_at "z") => `(tactic| with_reducible refine z_p6 ?_)
local macro_rules | `(tactic| walk_at "z") => `(tactic| with_reducible refine z_p12 ?_)
local macro_rules | `(tactic| walk_at "z") => `(tactic| with_reducible refine z_p13 ?_)
local macro_rules | `(tactic| walk_at "z") => `(tactic| with_reducible refine z_calln ?_)
local macro_rules | `(tactic| walk_at "z") => `(tactic| with_reducible refine z_xfS ?_)
local macro_rules | `(tactic| walk_at "z") => `(tactic| with_reducible refine z_lcS ?_)
local macro_rules | `(tactic| walk_at "z") => `(tactic| with_reducible refine z_lcRS ?_)
local macro_rules | `(tactic| walk_at "z") => `(tactic| with_reducible refine z_lcZS ?_)
local macro_rules | `(tactic| walk_at "z") => `(tactic| with_reducible refine z_foS ?_)
local macro_rules | `(tactic| walk_at "z") => `(tactic| with_reducible refine z_for1 ?_)
local macro_rules | `(tactic| walk_at "z") => `(tactic| with_reducible refine z_tsl ?_)
local macro_rules | `(tactic| walk_at "z") => `(tactic| with_reducible refine z_np ?_)
local macro_rules | `(tactic| walk_at "z") => `(tactic| with_reducible refine z_pt ?_)
local macro_rules | `(tactic| walk_at "z") => `(tactic| with_reducible refine z_pti ?_)
local macro_rules | `(tactic| walk_at "z") => `(tactic| with_reducible refine z_catI ?_)
local macro_rules | `(tactic| walk_at "z") => `(tactic| with_reducible refine z_isNI ?_)
local macro_rules | `(tactic| walk_at "z") => `(tactic| with_reducible refine z_isNN ?_)
local macro_rules | `(tactic| walk_at "z") => `(tactic| with_reducible refine z_notNI ?_)
local macro_rules | `(tactic| walk_at "z") => `(tactic| with_reducible refine z_notNN ?_)
local macro_rules | `(tactic| walk_at "z") => `(tactic| with_reducible refine z_gsub ?_)
local macro_rules | `(tactic| walk_at "z") => `(tactic| with_reducible refine z_isNb ?_)
local macro_rules | `(tactic| walk_at "z") => `(tactic| with_reducible refine z_notNb ?_)
local macro_rules | `(tactic| walk_at "z") => `(tactic| ((with_reducible refine' z_nlR ?zl1 ?_); (case zl1 => exact Nat.le_of_ble_eq_true rfl); intro p H' hp hs he))
local macro_rules | `(tactic| walk_at "z") => `(tactic| ((with_reducible refine' z_repR ?zl1 ?zl2 ?_); (case zl1 => omega); (case zl2 => omega)))
local macro_rules | `(tactic| walk_at "z") => `(tactic| ((with_reducible refine' z_repL ?zl1 ?zl2 ?_); (case zl1 => omega); (case zl2 => omega)))
local macro_rules | `(tactic| walk_at "z") => `(tactic| ((with_reducible refine' z_lenLst ?zl1 ?_); (case zl1 => walk_at "up")))
local macro_rules | `(tactic| walk_at "z") => `(tactic| ((with_reducible refine' z_cat ?zl1 ?zl2 ?zl3 ?_); (case zl1 => walk_at "up"); (case zl2 => walk_at "up"); (case zl3 => (simp only [List.length_map, List.length_cons, List.length_nil, List.length_append, List.length_replicate]; omega)); intro p H' hp hs he))
local macro_rules | `(tactic| walk_at "z") => `(tactic| with_reducible refine z_sfl ?_)
local macro_rules | `(tactic| walk_at "z") => `(tactic| with_reducible refine z_lcES ?_)
local macro_rules | `(tactic| walk_at "z") => `(tactic| with_reducible refine z_lcMS ?_)
local macro_rules | `(tactic| walk_at "z") => `(tactic| with_reducible refine z_foES ?_)
local macro_rules | `(tactic| walk_at "z") => `(tactic| with_reducible refine z_fo3S ?_)
local macro_rules | `(tactic| walk_at "z") => `(tactic| with_reducible refine z_sta ?_)
local macro_rules | `(tactic| walk_at "z") => `(tactic| with_reducible refine z_sta1 ?_)
local macro_rules | `(tactic| walk_at "z") => `(tactic| with_reducible refine z_lcTS ?_)
local macro_rules | `(tactic| walk_at "z") => `(tactic| with_reducible refine z_foTS ?_)
local macro_rules | `(tactic| walk_at "z") => `(tactic| with_reducible refine z_revTS ?_)
local macro_rules | `(tactic| walk_at "z") => `(tactic| with_reducible refine z_max2 ?_)
local macro_rules | `(tactic| walk_at "z") => `(tactic| ((with_reducible refine' z_fldt ?zc1 ?zc2 ?zl1 ?zl2 ?_); (case zc1 => exact Lw.cl_Ratio (by assumption)); (case zc2 => exact Lw.na_Ratio_top (by assumption)); (case zl1 => exact rfl); (case zl2 => walk_at "up")))
local macro_rules | `(tactic| walk_at "z") => `(tactic| ((with_reducible refine' z_fldb ?zc1 ?zc2 ?zl1 ?zl2 ?_); (case zc1 => exact Lw.cl_Ratio (by assumption)); (case zc2 => exact Lw.na_Ratio_bottom (by assumption)); (case zl1 => exact rfl); (case zl2 => walk_at "up")))
local macro_rules | `(tactic| walk_at "z") => `(tactic| ((with_reducible refine' u_mtF ?zl1 ?_); (case zl1 => walk_at "up")))
local macro_rules | `(tactic| walk_at "z") => `(tactic| ((with_reducible refine' z_ixLst ?zl1 ?zl2 ?_); (case zl1 => walk_at "up"); (case zl2 => exact rfl)))
local macro_rules | `(tactic| walk_at "z") => `(tactic| with_reducible refine z_for3 ?_)
local macro_rules | `(tactic| walk_at "z") => `(tactic| with_reducible refine z_tbits ?_)
local macro_rules | `(tactic| walk_at "z") => `(tactic| with_reducible refine z_tbi ?_)
local macro_rules | `(tactic| walk_at "z") => `(tactic| ((with_reducible refine' z_div2S ?zl1 ?zl2 ?_); (case zl1 => omega); (case zl2 => omega)))
local macro_rules | `(tactic| walk_at "z") => `(tactic| ((with_reducible refine' u_mod ?zl1 ?_); (case zl1 => omega)))
local macro_rules | `(tactic| walk_at "z") => `(tactic| with_reducible refine u_who ?_)
local macro_rules | `(tactic| walk_at "z") => `(tactic| with_reducible refine z_asg2 ?_)
theorem same02f {H H1 H2 : Hp} (h : Same H1 H2) (e : Same H H1) : Same H H2 := e.trans h
local macro_rules | `(tactic| walk_at "sm") => `(tactic| first
  | assumption
  | exact fun _ _ h => h
  | (refine' same02f (by assumption) ?zsm; case zsm => walk_at "sm"))
local macro_rules | `(tactic| walk_at "up") => `(tactic| first
  | assumption
  | (with_reducible refine' IsR.mono (by assumption) ?zup; case zup => walk_at "up")
  | (with_reducible refine' Fr.mono (by assumption) ?zup; case zup => walk_at "up")
  | (with_reducible refine' Same.at (by assumption) ?zup; case zup => walk_at "up")
  | (with_reducible refine' Facs.mono (by assumption) ?zup; case zup => walk_at "up")
  | (with_reducible refine' IsPool.mono (by assumption) ?zup; case zup => walk_at "up")
  | fail)
section
variable {P : Program} {w : World} {K : Frag} {mg : Str → Option Value} {base : Heap}
theorem ok_law_is (L : Lw K mg) {fd : FuncData} (F : FunD K "_law_is" "_law_is" (defArgs s_law_is) (defBody s_law_is) (defScope s_law_is) (df_law_is.dvs K) (df_law_is.kws K) (He.fAd K ("_law_is", none)) fd) : FnOk P w K mg base (L2N.CX P w) 3 (He.fAd K ("_law_is", none)) fd (["actual", "top", "bottom"] : List Str) (sp3 (fs_lis K)) := by
  refine FunD.ok F sc_law_is len3 (fun cdv A outer s H vs Q E hr h => ?_)
  obtain ⟨x, y, z, rfl, h⟩ := h
  refine ⟨_, (pss_cons (ps_if (pt_not (pt_val (pe_callB (callK rIsi (K := K) rfl call_isi) (by rfl) L.f_isinstance (by decide +kernel) (pa_cons (pv 0) (pa_cons (pe_cls L.g_Ratio) pa_nil))))) (pss_one (ps_ret pe_bl)) pss_nil)
    (pss_cons (ps_set (i := 3) sc_law_is.nd rfl (by first | exact Or.inl rfl | exact Or.inr rfl) (pe_c (c_law_common (K := K) L) hr (by decide) (L2N.takes_of rfl rfl rfl rfl) (pa_cons (pv 1) (pa_cons (pv 2) pa_nil))))
    (pss_cons (ps_if (pt_not (pt_val (pe_c (c_law_whole (K := K) L) hr (by decide) (L2N.takes_of rfl rfl rfl rfl) (pa_cons (pe_fld (pv 0) rfl) (pa_cons (pe_op o_div (pv 1) (pv 3)) pa_nil))))) (pss_one (ps_ret pe_bl)) pss_nil)
    (pss_one (ps_ret (pe_c (c_law_whole (K := K) L) hr (by decide) (L2N.takes_of rfl rfl rfl rfl) (pa_cons (pe_fld (pv 0) rfl) (pa_cons (pe_op o_div (pv 2) (pv 3)) pa_nil)))))))), ?_⟩
  rw [show L2.start (["actual", "top", "bottom", "part"] : List Str) [x, y, z] = [some x, some y, some z, none] from rfl]
  obtain ⟨a, T, w, B, rfl, rfl, rfl, hF, w0, bw, hB, q⟩ := h
  obtain ⟨t, b, hr, b0, gg, e⟩ := id hF
  obtain ⟨e1, e2, e3, e4, g0⟩ := fr_red b0 w0 gg e
  try dsimp only [List.set]
  walk_at "zz"
  refine z_isR L.in_Ratio L.kt_Ratio_Ratio hr ?_
  try dsimp only [List.set]
  walk_at "zz"
  refine ⟨_, _, rfl, T, w, rfl, rfl, w0, ?_⟩
  have bg : Bits (B + 1) ((Int.gcd T w : Nat) : Int) := Bits.up (Bits.gcd bw (by omega)) (Nat.le_succ B)
  try dsimp only [List.set]
  walk_at "zz"
  refine z_div (by omega) bg (Nat.succ_pos B) (by omega) ?_
  rw [e1]
  try dsimp only [List.set]
  walk_at "zz"
  rw [decide_eq_true rfl]
  try dsimp only [List.set]
  walk_at "zz"
  refine z_div (by omega) bg (Nat.succ_pos B) (by omega) ?_
  rw [e2]
  try dsimp only [List.set]
  walk_at "zz"
  rw [decide_eq_true rfl]
  exact q
theorem c_law_is (L : Lw K mg) : Cal P w K mg base 3 "_law_is" (sp3 (fs_lis K)) [] := by
  obtain ⟨fd, F⟩ := L.d_law_is
  exact ⟨⟨_, fd, ["actual", "top", "bottom"], [], ok_law_is L F, L.g_law_is, F.kp, F.bindsN (fun _ _ _ _ _ _ us hl => match us, hl with | [_, _, _], _ => rfl), .nil⟩⟩
theorem ch_law_is (L : Lw K mg) : CalH P w K mg base 3 "_law_is" (sp3 (fs_lis K)) := by
  obtain ⟨fd, F⟩ := L.d_law_is
  refine ⟨_, fd, ["actual", "top", "bottom"], okH F sc_law_is len3 (fun cdv A outer s H vs Q E p hot1 hrH h => ?_), L.g_law_is, F.kp, F.bindsN (fun _ _ _ _ _ _ us hl => match us, hl with | [_, _, _], _ => rfl)⟩
  obtain ⟨x, y, z, rfl, h⟩ := h
  refine ⟨_, (pss_cons (ps_if (pt_not (pt_val (pe_callB (callK rIsi (K := K) rfl call_isi) (by rfl) L.f_isinstance (by decide +kernel) (pa_cons (pv 0) (pa_cons (pe_cls L.g_Ratio) pa_nil))))) (pss_one (ps_ret pe_bl)) pss_nil)
    (pss_cons (ps_set (i := 3) sc_law_is.nd rfl (by first | exact Or.inl rfl | exact Or.inr rfl) (pe_ch (ch_law_common (K := K) L) hrH (by decide) (hot_in hot1) (pa_cons (pv 1) (pa_cons (pv 2) pa_nil))))
    (pss_cons (ps_if (pt_not (pt_val (pe_ch (ch_law_whole (K := K) L) hrH (by decide) (hot_in hot1) (pa_cons (pe_fld (pv 0) rfl) (pa_cons (pe_op o_div (pv 1) (pv 3)) pa_nil))))) (pss_one (ps_ret pe_bl)) pss_nil)
    (pss_one (ps_ret (pe_ch (ch_law_whole (K := K) L) hrH (by decide) (hot_in hot1) (pa_cons (pe_fld (pv 0) rfl) (pa_cons (pe_op o_div (pv 2) (pv 3)) pa_nil)))))))), ?_⟩
  rw [show L2.start (["actual", "top", "bottom", "part"] : List Str) [x, y, z] = [some x, some y, some z, none] from rfl]
  obtain ⟨a, T, w, B, rfl, rfl, rfl, hF, w0, bw, hB, q⟩ := h
  obtain ⟨t, b, hr, b0, gg, e⟩ := id hF
  obtain ⟨e1, e2, e3, e4, g0⟩ := fr_red b0 w0 gg e
  try dsimp only [List.set]
  walk_at "zz"
  refine z_isR L.in_Ratio L.kt_Ratio_Ratio hr ?_
  try dsimp only [List.set]
  walk_at "zz"
  refine ⟨_, _, rfl, T, w, rfl, rfl, w0, ?_⟩
  have bg : Bits (B + 1) ((Int.gcd T w : Nat) : Int) := Bits.up (Bits.gcd bw (by omega)) (Nat.le_succ B)
  try dsimp only [List.set]
  walk_at "zz"
  refine z_div (by omega) bg (Nat.succ_pos B) (by omega) ?_
  rw [e1]
  try dsimp only [List.set]
  walk_at "zz"
  rw [decide_eq_true rfl]
  try dsimp only [List.set]
  walk_at "zz"
  refine z_div (by omega) bg (Nat.succ_pos B) (by omega) ?_
  rw [e2]
  try dsimp only [List.set]
  walk_at "zz"
  rw [decide_eq_true rfl]
  exact q
theorem ok_law_below (L : Lw K mg) {fd : FuncData} (F : FunD K "_law_below" "_law_below" (defArgs s_law_below) (defBody s_law_below) (defScope s_law_below) (df_law_below.dvs K) (df_law_below.kws K) (He.fAd K ("_law_below", none)) fd) : FnOk P w K mg base (L2N.CX P w) 3 (He.fAd K ("_law_below", none)) fd (["actual", "top", "bottom", "k", "grain"] : List Str) (sp5 (fs_lb K)) := by
  refine FunD.ok F sc_law_below len5 (fun cdv A outer s H vs Q E hr h => ?_)
  obtain ⟨x, y, z, u, v, rfl, h⟩ := h
  refine ⟨_, (pss_cons (ps_if (pt_not (pt_val (pe_callB (callK rIsi (K := K) rfl call_isi) (by rfl) L.f_isinstance (by decide +kernel) (pa_cons (pv 0) (pa_cons (pe_cls L.g_Ratio) pa_nil))))) (pss_one (ps_ret pe_bl)) pss_nil)
    (pss_cons (ps_set (i := 5) sc_law_below.nd rfl (by first | exact Or.inl rfl | exact Or.inr rfl) (pe_fld (pv 0) rfl))
    (pss_cons (ps_set (i := 6) sc_law_below.nd rfl (by first | exact Or.inl rfl | exact Or.inr rfl) (pe_fld (pv 0) rfl))
    (pss_cons (ps_if (PW.pt (pw_or (pt_not (pt_val (pe_c (c_law_whole (K := K) L) hr (by decide) (L2N.takes_of rfl rfl rfl rfl) (pa_cons (pv 5) (pa_cons (pv 5) pa_nil))))) (pw_or (pt_not (pt_val (pe_c (c_law_whole (K := K) L) hr (by decide) (L2N.takes_of rfl rfl rfl rfl) (pa_cons (pv 6) (pa_cons (pv 6) pa_nil))))) (pw_or (pt_cmpR o_lt (pv 5) pe_int (nomark _)) (pw_or1 (pt_cmpR o_lt (pv 6) pe_int (nomark _))))))) (pss_one (ps_ret pe_bl)) pss_nil)
    (pss_cons (ps_if (PW.pt (pw_or (pt_cmpR op_ne (pe_c (c_law_common (K := K) L) hr (by decide) (L2N.takes_of rfl rfl rfl rfl) (pa_cons (pv 5) (pa_cons (pv 6) pa_nil))) pe_int (nomark _)) (pw_or1 (pt_cmpR op_ne (pe_c (c_law_mod (K := K) L) hr (by decide) (L2N.takes_of rfl rfl rfl rfl) (pa_cons (pv 4) (pa_cons (pv 6) pa_nil))) pe_int (nomark _))))) (pss_one (ps_ret pe_bl)) pss_nil)
    (pss_cons (ps_set (i := 7) sc_law_below.nd rfl (by first | exact Or.inl rfl | exact Or.inr rfl) (pe_op o_rep (pv 5) (pe_op o_div (pv 4) (pv 6))))
    (pss_cons (ps_set (i := 8) sc_law_below.nd rfl (by first | exact Or.inl rfl | exact Or.inr rfl) (pe_op o_rep (pv 1) (pe_c (c_law_power (K := K) L) hr (by decide) (L2N.takes_of rfl rfl rfl rfl) (pa_cons (pv 4) (pa_cons (pv 3) pa_nil)))))
    (pss_cons (ps_if (pt_cmpR o_gt (pe_op o_rep (pe_c (c_law_power (K := K) L) hr (by decide) (L2N.takes_of rfl rfl rfl rfl) (pa_cons (pv 7) (pa_cons (pv 3) pa_nil))) (pv 2)) (pv 8) (nomark _)) (pss_one (ps_ret pe_bl)) pss_nil)
    (pss_one (ps_ret (pe_cmpR o_gt (pe_op o_rep (pe_c (c_law_power (K := K) L) hr (by decide) (L2N.takes_of rfl rfl rfl rfl) (pa_cons (pe_op o_cat (pv 7) pe_int) (pa_cons (pv 3) pa_nil))) (pv 2)) (pv 8) (nomark _)))))))))))), ?_⟩
  rw [show L2.start (["actual", "top", "bottom", "k", "grain", "up", "under", "count", "due"] : List Str) [x, y, z, u, v] = [some x, some y, some z, some u, some v, none, none, none, none] from rfl]
  obtain ⟨a, T, w, g, r, k, B, G, D, rfl, rfl, rfl, rfl, rfl, hF, g0, w0, lo, hi, bT, bw, bg, bd, hB, hG, hD1, hD, s1, s2, q⟩ := h
  obtain ⟨t, b, hr, b0, gg, e⟩ := id hF
  obtain ⟨ec1, ec2⟩ := count_eq b0 gg e
  have bits := fr_bits b0 gg g0 e bd bg
  have t0 : 0 ≤ t := by
    have := (fr_neg b0 g0 e).1
    omega
  try dsimp only [List.set]
  walk_at "zz"
  refine z_isR L.in_Ratio L.kt_Ratio_Ratio hr ?_
  try dsimp only [List.set]
  walk_at "zz"
  rw [decide_eq_true rfl]
  try dsimp only [List.set]
  walk_at "zz"
  rw [decide_eq_true rfl]
  try dsimp only [List.set]
  walk_at "zz"
  refine z_dF (by omega) ?_
  try dsimp only [List.set]
  walk_at "zz"
  refine z_dF (by omega) ?_
  try dsimp only [List.set]
  walk_at "zz"
  refine ⟨_, _, rfl, t, b, rfl, rfl, b0, ?_⟩
  rw [gg]
  try dsimp only [List.set]
  walk_at "zz"
  refine z_dT rfl ?_
  try dsimp only [List.set]
  walk_at "zz"
  refine z_dT ec1 ?_
  try dsimp only [List.set]
  walk_at "zz"
  refine z_div b0 (bits.2.up (Nat.le_succ G)) (Nat.succ_pos G) (by omega) ?_
  try dsimp only [List.set]
  walk_at "zz"
  have bq : Bits G (g / b) := bg.div
  refine z_repU0 bits.1 bq (by omega) ?_
  rw [ec2]
  try dsimp only [List.set]
  walk_at "zz"
  have l1 : D * k ≤ (D + 1) * k := Nat.mul_le_mul_right _ (Nat.le_succ D)
  refine u_lp bg (by omega) ?_
  try dsimp only [List.set]
  walk_at "zz"
  refine z_repU0 bT (bpow bg k) (by omega) ?_
  try dsimp only [List.set]
  walk_at "zz"
  refine u_lp bd (by omega) ?_
  try dsimp only [List.set]
  walk_at "zz"
  refine z_repU0 (bpow bd k) bw (by omega) ?_
  try dsimp only [List.set]
  walk_at "zz"
  refine z_dF (by omega) ?_
  try dsimp only [List.set]
  walk_at "zz"
  have bd1 : Bits (D + 1) ((r : Int) + 1) := Bits.add bd (Bits.up (Bits.small (n := 1) (by decide) (by decide)) (by omega))
  refine u_lp bd1 (by omega) ?_
  try dsimp only [List.set]
  walk_at "zz"
  refine z_repU0 (bpow bd1 k) bw (by omega) ?_
  try dsimp only [List.set]
  walk_at "zz"
  rw [decide_eq_true hi]
  exact q
theorem c_law_below (L : Lw K mg) : Cal P w K mg base 3 "_law_below" (sp5 (fs_lb K)) [] := by
  obtain ⟨fd, F⟩ := L.d_law_below
  exact ⟨⟨_, fd, ["actual", "top", "bottom", "k", "grain"], [], ok_law_below L F, L.g_law_below, F.kp, F.bindsN (fun _ _ _ _ _ _ us hl => match us, hl with | [_, _, _, _, _], _ => rfl), .nil⟩⟩
theorem ok_law_root (L : Lw K mg) {fd : FuncData} (F : FunD K "_law_root" "_law_root" (defArgs s_law_root) (defBody s_law_root) (defScope s_law_root) (df_law_root.dvs K) (df_law_root.kws K) (He.fAd K ("_law_root", none)) fd) : FnOk P w K mg base (L2N.CX P w) 3 (He.fAd K ("_law_root", none)) fd (["number", "k"] : List Str) (sp2 fs_lrt) := by
  refine FunD.ok F sc_law_root len2 (fun cdv A outer s H vs Q E hr h => ?_)
  obtain ⟨a, b, rfl, h⟩ := h
  refine ⟨_, (pss_cons (ps_if (pt_cmpR op_eq (pv 1) pe_int (nomark _)) (pss_one (ps_ret (pv 0))) pss_nil)
    (pss_cons (ps_set (i := 2) sc_law_root.nd rfl (by first | exact Or.inl rfl | exact Or.inr rfl) pe_int)
    (pss_cons (ps_while (passes_of rfl) (pt_cmpR o_le (pe_c (c_law_power (K := K) L) hr (by decide) (L2N.takes_of rfl rfl rfl rfl) (pa_cons (pv 2) (pa_cons (pv 1) pa_nil))) (pv 0) (nomark _)) (pss_one (ps_set (i := 2) sc_law_root.nd rfl (by first | exact Or.inl rfl | exact Or.inr rfl) (pe_op o_rep (pv 2) pe_int))))
    (pss_cons (ps_set (i := 3) sc_law_root.nd rfl (by first | exact Or.inl rfl | exact Or.inr rfl) pe_int)
    (pss_cons (ps_while (passes_of rfl) (pt_cmpR o_gt (pe_op o_sub (pv 2) (pv 3)) pe_int (nomark _)) (pss_cons (ps_set (i := 4) sc_law_root.nd rfl (by first | exact Or.inl rfl | exact Or.inr rfl) (pe_op o_div (pe_op o_cat (pv 3) (pv 2)) pe_int))
    (pss_one (ps_if (pt_cmpR o_le (pe_c (c_law_power (K := K) L) hr (by decide) (L2N.takes_of rfl rfl rfl rfl) (pa_cons (pv 4) (pa_cons (pv 1) pa_nil))) (pv 0) (nomark _)) (pss_one (ps_set (i := 3) sc_law_root.nd rfl (by first | exact Or.inl rfl | exact Or.inr rfl) (pv 4))) (pss_one (ps_set (i := 2) sc_law_root.nd rfl (by first | exact Or.inl rfl | exact Or.inr rfl) (pv 4)))))))
    (pss_one (ps_ret (pv 3)))))))), ?_⟩
  rw [show L2.start (["number", "k", "high", "low", "middle"] : List Str) [a, b] = [some a, some b, none, none, none] from rfl]
  obtain ⟨N, K, b, rfl, rfl, hN, hs, q⟩ := h
  try dsimp only [List.set]
  walk_at "zz"
  refine z_d2 (fun c0 => ?_) (fun c0 => ?_)
  · try dsimp only [List.set]
    walk_at "zz"
    have K0 : K = 0 := by omega
    subst K0
    exact q N ⟨by omega, by rw [Int.pow_succ, Int.pow_zero, Int.one_mul]; exact Int.le_refl _, by rw [Int.pow_succ, Int.pow_zero, Int.one_mul]; omega⟩
  try dsimp only [List.set]
  walk_at "zz"
  refine z_while (fun v σ' H' => ∃ h : Nat, σ' = [some (.int (N : Int)), some (.int ((K + 1 : Nat) : Int)), some (.int (2 ^ h)), none, none] ∧ H = H' ∧ (∀ h', h = h' + 1 → ((2 : Int) ^ h') ^ (K + 1) ≤ N) ∧ v = b + 1 - h) (b + 1) ⟨0, rfl, rfl, fun h' z => by omega, rfl⟩ ?_
  rintro v σ' H' ⟨h, rfl, rfl, hh, rfl⟩
  have hb : h ≤ b := by
    match h, hh with
    | 0, _ => omega
    | h + 1, hh =>
      have := two_pow_lt (hh h rfl) hN
      have := hh_le h K
      omega
  have hsz : 2 * ((h + 1) * (K + 1)) + 4 ≤ 800000 := by
    match h, hh with
    | 0, _ => omega
    | h + 1, hh =>
      have := two_pow_lt (hh h rfl) hN
      rw [show h + 1 + 1 = h + 2 by omega, Nat.add_mul]
      omega
  try dsimp only [List.set]
  walk_at "zz"
  refine u_lp (two_bits h) hsz ?_
  try dsimp only [List.set]
  walk_at "zz"
  refine z_d2 (fun c1 => ?_) (fun c1 => ?_)
  · refine ⟨_, fun _ _ h => h, ?_⟩
    try dsimp only [List.set]
    walk_at "zz"
    have := two_pow_lt c1 hN
    have := hh_le h K
    have e2 : (2 : Int) ^ h * 2 = 2 ^ (h + 1) := (Int.pow_succ _ _).symm
    have hh2 : ∀ h', h + 1 = h' + 1 → ((2 : Int) ^ h') ^ (K + 1) ≤ N := fun h' z => by
      have e : h = h' := by omega
      rw [← e]
      exact c1
    rw [e2]
    refine ⟨b + 1 - (h + 1), by omega, h + 1, rfl, rfl, hh2, rfl⟩
  try dsimp only [List.set]
  walk_at "zz"
  have hp : (0 : Int) < 2 ^ h := Int.pow_pos (by decide)
  refine z_while (fun v σ' H' => ∃ (lo hi : Int) (x4 : Option V), σ' = [some (.int (N : Int)), some (.int ((K + 1 : Nat) : Int)), some (.int hi), some (.int lo), x4] ∧ H = H' ∧ 0 ≤ lo ∧ lo < hi ∧ lo ^ (K + 1) ≤ N ∧ (N : Int) < hi ^ (K + 1) ∧ hi ≤ 2 ^ h ∧ v = (hi - lo).toNat) _ ⟨0, 2 ^ h, _, rfl, rfl, Int.le_refl _, hp, by rw [Int.zero_pow (by omega)]; omega, by omega, Int.le_refl _, rfl⟩ ?_
  rintro v σ' H' ⟨lo, hi, x4, rfl, rfl, l0, lh, g1, g2, hc, rfl⟩
  try dsimp only [List.set]
  walk_at "zz"
  refine z_d2 (fun c2 => ?_) (fun c2 => ?_)
  · refine ⟨_, fun _ _ h => h, ?_⟩
    try dsimp only [List.set]
    walk_at "zz"
    obtain ⟨mi, hmi⟩ : ∃ mi, mi = (lo + hi) / 2 := ⟨_, rfl⟩
    rw [← hmi]
    have m1 : lo < mi := by omega
    have m2 : mi < hi := by omega
    refine u_lp (bits_of_le (c := h) (by omega) (by omega)) hsz ?_
    try dsimp only [List.set]
    walk_at "zz"
    refine z_d2 (fun c3 => ?_) (fun c3 => ?_)
    · try dsimp only [List.set]
      walk_at "zz"
      exact ⟨(hi - mi).toNat, by omega, mi, hi, _, rfl, rfl, by omega, m2, c3, g2, hc, rfl⟩
    · try dsimp only [List.set]
      walk_at "zz"
      exact ⟨(mi - lo).toNat, by omega, lo, mi, _, rfl, rfl, l0, m1, g1, by omega, by omega, rfl⟩
  · try dsimp only [List.set]
    walk_at "zz"
    obtain ⟨r, rfl⟩ : ∃ r : Nat, (r : Int) = lo := ⟨lo.toNat, by omega⟩
    have eh : hi = (r : Int) + 1 := by omega
    subst eh
    exact q r ⟨l0, g1, g2⟩
theorem c_law_root (L : Lw K mg) : Cal P w K mg base 3 "_law_root" (sp2 fs_lrt) [] := by
  obtain ⟨fd, F⟩ := L.d_law_root
  exact ⟨⟨_, fd, ["number", "k"], [], ok_law_root L F, L.g_law_root, F.kp, F.bindsN (fun _ _ _ _ _ _ us hl => match us, hl with | [_, _], _ => rfl), .nil⟩⟩
theorem ok_law_exact (L : Lw K mg) {fd : FuncData} (F : FunD K "_law_exact" "_law_exact" (defArgs s_law_exact) (defBody s_law_exact) (defScope s_law_exact) (df_law_exact.dvs K) (df_law_exact.kws K) (He.fAd K ("_law_exact", none)) fd) : FnOk P w K mg base (L2N.CX P w) 4 (He.fAd K ("_law_exact", none)) fd (["actual", "top", "bottom", "k"] : List Str) (sp4 (fs_lx K)) := by
  refine FunD.ok F sc_law_exact len4 (fun cdv A outer s H vs Q E hr h => ?_)
  obtain ⟨a, b, c, d, rfl, h⟩ := h
  refine ⟨_, (pss_cons (ps_set (i := 4) sc_law_exact.nd rfl (by first | exact Or.inl rfl | exact Or.inr rfl) (pe_c (c_law_common (K := K) L) hr (by decide) (L2N.takes_of rfl rfl rfl rfl) (pa_cons (pv 1) (pa_cons (pv 2) pa_nil))))
    (pss_cons (ps_set (i := 5) sc_law_exact.nd rfl (by first | exact Or.inl rfl | exact Or.inr rfl) (pe_c (c_law_root (K := K) L) hr (by decide) (L2N.takes_of rfl rfl rfl rfl) (pa_cons (pe_op o_div (pv 1) (pv 4)) (pa_cons (pv 3) pa_nil))))
    (pss_cons (ps_set (i := 6) sc_law_exact.nd rfl (by first | exact Or.inl rfl | exact Or.inr rfl) (pe_c (c_law_root (K := K) L) hr (by decide) (L2N.takes_of rfl rfl rfl rfl) (pa_cons (pe_op o_div (pv 2) (pv 4)) (pa_cons (pv 3) pa_nil))))
    (pss_cons (ps_if (pt_cmpR op_ne (pe_op o_rep (pe_c (c_law_power (K := K) L) hr (by decide) (L2N.takes_of rfl rfl rfl rfl) (pa_cons (pv 5) (pa_cons (pv 3) pa_nil))) (pv 4)) (pv 1) (nomark _)) (pss_one (ps_ret (pe_cmpR o_isN (pv 0) pe_non (nomark _)))) pss_nil)
    (pss_cons (ps_if (pt_cmpR op_ne (pe_op o_rep (pe_c (c_law_power (K := K) L) hr (by decide) (L2N.takes_of rfl rfl rfl rfl) (pa_cons (pv 6) (pa_cons (pv 3) pa_nil))) (pv 4)) (pv 2) (nomark _)) (pss_one (ps_ret (pe_cmpR o_isN (pv 0) pe_non (nomark _)))) pss_nil)
    (pss_one (ps_ret (pe_c (c_law_is (K := K) L) hr (by decide) (L2N.takes_of rfl rfl rfl rfl) (pa_cons (pv 0) (pa_cons (pv 5) (pa_cons (pv 6) pa_nil))))))))))), ?_⟩
  rw [show L2.start (["actual", "top", "bottom", "k", "part", "up", "under"] : List Str) [a, b, c, d] = [some a, some b, some c, some d, none, none, none] from rfl]
  obtain ⟨T, w, t, b, k, B, rfl, rfl, rfl, k0, T0, w0, b0, e, gg, bT, bw, hB1, hB, hk, act, q⟩ := h
  obtain ⟨e1, e2, e3, e4, g0⟩ := fr_red b0 w0 gg e
  obtain ⟨K', rfl⟩ : ∃ K' : Nat, k = K' + 1 := ⟨k - 1, by omega⟩
  have bits := fr_bits b0 gg w0 e bT bw
  have t0 : 0 ≤ t := by
    have := (fr_neg b0 w0 e).1
    omega
  have bg : Bits B ((Int.gcd T w : Nat) : Int) := Bits.gcd bw (by omega)
  obtain ⟨n, hn⟩ : ∃ n : Nat, (n : Int) = t := ⟨t.toNat, by omega⟩
  obtain ⟨m, hm⟩ : ∃ m : Nat, (m : Int) = b := ⟨b.toNat, by omega⟩
  have nb : n < 2 ^ B := by have := bits.1; rw [← hn] at this; unfold Bits at this; rwa [Int.natAbs_natCast] at this
  have mb : m < 2 ^ B := by have := bits.2; rw [← hm] at this; unfold Bits at this; rwa [Int.natAbs_natCast] at this
  have sz : 2 * ((B / (K' + 1) + 1 + 1) * (K' + 1)) + 4 ≤ 800000 := by
    have := Nat.div_mul_le_self B (K' + 1)
    rw [Nat.add_mul, Nat.add_mul]
    omega
  have sz2 : (B / (K' + 1) + 1 + 1) * (K' + 1) + 1 + B ≤ 900000 := by omega
  have rb : ∀ {N r : Nat}, N < 2 ^ B → S02.Rt N r (K' + 1) → Bits (B / (K' + 1) + 1 + 1) (r : Int) := fun {N r} h1 h2 => bits_of_le h2.1 (Int.le_of_lt (S02.lt_of_pow (k := K' + 1) (S02.pow_nn (by decide) _) (Int.lt_of_le_of_lt h2.2.1 (root_hi h1)) h2.1))
  have rl : B / (K' + 1) ≤ B := Nat.div_le_self _ _
  try dsimp only [List.set]
  walk_at "zz"
  refine ⟨_, _, rfl, T, w, rfl, rfl, w0, ?_⟩
  generalize Int.gcd T w = part at *
  have i1 : ∀ x : Int, x * part = T ↔ x = t := fun x => by
    rw [e3]
    exact ⟨fun h => Int.eq_of_mul_eq_mul_right (show (part : Int) ≠ 0 by omega) h, fun h => by rw [h]⟩
  have i2 : ∀ x : Int, x * part = w ↔ x = b := fun x => by
    rw [e4]
    exact ⟨fun h => Int.eq_of_mul_eq_mul_right (show (part : Int) ≠ 0 by omega) h, fun h => by rw [h]⟩
  try dsimp only [List.set]
  walk_at "zz"
  refine z_div (by omega) bg (by omega) (by omega) ?_
  rw [e1, ← hn]
  try dsimp only [List.set]
  walk_at "zz"
  refine ⟨_, _, rfl, n, K', B, rfl, rfl, nb, by omega, fun r hr => ?_⟩
  try dsimp only [List.set]
  walk_at "zz"
  refine z_div (by omega) bg (by omega) (by omega) ?_
  rw [e2, ← hm]
  try dsimp only [List.set]
  walk_at "zz"
  refine ⟨_, _, rfl, m, K', B, rfl, rfl, mb, by omega, fun s hs => ?_⟩
  try dsimp only [List.set]
  walk_at "zz"
  refine u_lp (rb nb hr) sz ?_
  try dsimp only [List.set]
  walk_at "zz"
  refine z_repU0 (bpow (rb nb hr) (K' + 1)) bg sz2 ?_
  try dsimp only [List.set]
  walk_at "zz"
  refine z_d2 (fun c1 => ?_) (fun c1 => ?_)
  · have d1 := (i1 _).mp c1
    try dsimp only [List.set]
    walk_at "zz"
    refine u_lp (rb mb hs) sz ?_
    try dsimp only [List.set]
    walk_at "zz"
    refine z_repU0 (bpow (rb mb hs) (K' + 1)) bg sz2 ?_
    try dsimp only [List.set]
    walk_at "zz"
    refine z_d2 (fun c2 => ?_) (fun c2 => ?_)
    · have d2 := (i2 _).mp c2
      try dsimp only [List.set]
      walk_at "zz"
      rcases act with ⟨rfl, no⟩ | ⟨a, r', s', rfl, h1, h2, hF⟩
      · exact (no ⟨r, s, d1, d2⟩).elim
      · have er := S02.Rt.uniq (rt_pow (h1.trans hn.symm) (by omega)) hr
        have es := S02.Rt.uniq (rt_pow (h2.trans hm.symm) (by omega)) hs
        rw [er, es] at hF
        have sn : ¬ (s : Int) = 0 := fun z => by
          rw [z, Int.zero_pow (by omega)] at d2
          omega
        have s0 : (0 : Int) < s := by omega
        try dsimp only [List.set]
        walk_at "zz"
        exact u_lis hF s0 (rb mb hs) (by omega) q
    · try dsimp only [List.set]
      walk_at "zz"
      rcases act with ⟨rfl, no⟩ | ⟨a, r', s', rfl, h1, h2, hF⟩
      · try dsimp only [List.set]
        walk_at "zz"
        exact q
      · exact (c2 ((i2 _).mpr (by rw [← S02.Rt.uniq (rt_pow (h2.trans hm.symm) (by omega)) hs]; exact h2))).elim
  · try dsimp only [List.set]
    walk_at "zz"
    rcases act with ⟨rfl, no⟩ | ⟨a, r', s', rfl, h1, h2, hF⟩
    · try dsimp only [List.set]
      walk_at "zz"
      exact q
    · exact (c1 ((i1 _).mpr (by rw [← S02.Rt.uniq (rt_pow (h1.trans hn.symm) (by omega)) hr]; exact h1))).elim
theorem c_law_exact (L : Lw K mg) : Cal P w K mg base 4 "_law_exact" (sp4 (fs_lx K)) [] := by
  obtain ⟨fd, F⟩ := L.d_law_exact
  exact ⟨⟨_, fd, ["actual", "top", "bottom", "k"], [], ok_law_exact L F, L.g_law_exact, F.kp, F.bindsN (fun _ _ _ _ _ _ us hl => match us, hl with | [_, _, _, _], _ => rfl), .nil⟩⟩
end
end T
set_option maxHeartbeats 4000000
namespace T
open PySem PySem.Spec PyProof.Rows L2 Z
def fs_xe (K : Frag) : F2 := fun x y H Q _ => ∃ (p : Addr) (t b k : Int), x = .ref p ∧ y = .int k ∧ IsR K H p t b ∧ 0 < b ∧ Int.gcd t b = 1 ∧ 0 ≤ t ∧ ¬ (1 ≤ k ∧ k ≤ 5000) ∧ ∀ H', Same H H' → Q (.bl true) H'
def fs_re (K : Frag) : F4 := fun x y z u H Q _ => ∃ (p : Addr) (T w k g due : Int), x = .ref p ∧ y = .int k ∧ z = .int g ∧ u = .int due ∧ Fr K H p T w ∧ 0 < w ∧ 0 ≤ T ∧ (¬ (1 ≤ k ∧ k ≤ 5000) ∧ due = k ∨ 1 ≤ k ∧ k ≤ 5000 ∧ ¬ (1 ≤ g ∧ g ≤ 1000000000000000000000000000000000000000000000000000000000000) ∧ due = g) ∧ ∀ H', Same H H' → Q (.bl true) H'
def fs_ng (K : Frag) : F4 := fun x y z u H Q _ => ∃ (T w k g : Int) (B : Nat), x = .int T ∧ y = .int w ∧ z = .int k ∧ u = .int g ∧ T < 0 ∧ 0 < w ∧ Bits B w ∧ B ≤ 8999 ∧ ∀ H', Same H H' → Q (.bl true) H'
local macro_rules | `(tactic| walk_at "up") => `(tactic| first
  | assumption
  | (refine' IsR.mono (by assumption) ?zup; case zup => walk_at "up")
  | (refine' IsE.mono (by assumption) ?zup; case zup => walk_at "up")
  | (refine' Same.at (by assumption) ?zup; case zup => walk_at "up")
  | (refine' SqL.of ?zup; case zup => walk_at "up")
  | (refine' L2.Same.seq (by assumption) ?zup; case zup => walk_at "up"))
local macro_rules | `(tactic| walk_at "z") => `(tactic| first
  | ((with_reducible refine' z_var ?zvh ?_); (case zvh => exact rfl))
  | with_reducible refine z_c ?_
  | with_reducible refine z_cons ?_
  | with_reducible refine z_nil ?_
  | with_reducible refine z_op ?_
  | with_reducible refine z_nx ?_
  | with_reducible refine z_seq ?_
  | with_reducible refine z_asg ?_
  | with_reducible refine z_asgG ?_
  | with_reducible refine z_call ?_
  | with_reducible refine z_sq0 ?_
  | with_reducible refine z_sq1 ?_
  | with_reducible refine z_ifS ?_
  | with_reducible refine z_test ?_
  | with_reducible refine z_tb ?_
  | with_reducible refine z_bl ?_
  | with_reducible refine z_blI ?_
  | with_reducible refine z_ret ?_
  | with_reducible refine z_rt ?_
  | with_reducible refine z_T ?_
  | with_reducible refine z_F ?_
  | with_reducible refine z_add ?_
  | with_reducible refine z_sub ?_
  | with_reducible refine z_neg ?_
  | with_reducible refine z_un ?_
  | with_reducible refine z_eqI ?_
  | with_reducible refine z_neI ?_
  | with_reducible refine z_lt ?_
  | with_reducible refine z_le ?_
  | with_reducible refine z_gt ?_
  | with_reducible refine z_ge ?_
  | with_reducible refine z_not ?_
  | with_reducible refine z_and ?_
  | with_reducible refine z_or ?_
  | with_reducible refine z_andV ?_
  | with_reducible refine z_orV ?_
  | with_reducible refine z_notV ?_
  | with_reducible refine z_if ?_
  | with_reducible refine z_cb ?_
  | with_reducible refine z_int1 ?_
  | with_reducible refine z_intb ?_
  | with_reducible refine z_abs ?_
  | with_reducible refine z_gcd ?_
  | with_reducible refine z_isi_ii ?_
  | with_reducible refine z_isi_ib ?_
  | with_reducible refine z_next ?_
  | with_reducible refine z_drop ?_
  | with_reducible refine z_par ?_
  | with_reducible refine z_par2 ?_
  | with_reducible refine z_tupN ?_
  | with_reducible refine z_lstN ?_
  | ((with_reducible refine' z_nt ?zl1 ?_); (case zl1 => exact Nat.le_of_ble_eq_true rfl); intro p H' hp hs he)
  | ((with_reducible refine' z_gtup ?zl1 ?zl2 ?_); (case zl1 => walk_at "up"); (case zl2 => exact rfl))
  | with_reducible refine z_bk ?_
  | with_reducible refine z_ct ?_
  | with_reducible refine z_break ?_
  | with_reducible refine z_cont ?_
  | with_reducible refine z_retN ?_
  | with_reducible refine z_nn ?_
  | with_reducible refine z_mk ?_
  | with_reducible refine z_gn ?_
  | with_reducible refine z_gcons ?_
  | with_reducible refine z_gnil ?_
  | with_reducible refine z_mt ?_
  | with_reducible refine z_mko ?_
  | with_reducible refine z_for2 ?_
  | with_reducible refine z_ownI ?_
  | ((with_reducible refine' z_lenL ?zl1 ?_); (case zl1 => walk_at "up"))
  | ((with_reducible refine' z_ixT ?zl1 ?zl2 ?_); (case zl1 => walk_at "up"); (case zl2 => exact rfl))
  | ((with_reducible refine' z_mulL ?zl1 ?zl2 ?_); (case zl1 => omega); (case zl2 => omega))
  | ((with_reducible refine' z_mulR ?zl1 ?zl2 ?_); (case zl1 => omega); (case zl2 => omega))
  | ((with_reducible refine' z_divS ?zl1 ?zl2 ?_); (case zl1 => omega); (case zl2 => omega))
  | ((with_reducible refine' z_mulW ?zl1 ?zl2 ?zl3 ?zl4 ?_); (case zl1 => omega); (case zl2 => omega); (case zl3 => omega); (case zl4 => omega))
  | ((with_reducible refine' z_divW ?zl1 ?zl2 ?_); (case zl1 => omega); (case zl2 => omega)))
local macro_rules | `(tactic| walk_at "zz") => `(tactic| repeat (walk_at "z"))
local macro_rules | `(tactic| walk_at "z") => `(tactic| with_reducible refine z_lstN ?_)
local macro_rules | `(tactic| walk_at "z") => `(tactic| with_reducible refine z_p6 ?_)
local macro_rules | `(tactic| walk_at "z") => `(tactic| with_reducible refine z_p12 ?_)
local macro_rules | `(tactic| walk_at "z") => `(tactic| with_reducible refine z_p13 ?_)
local macro_rules | `(tactic| walk_at "z") => `(tactic| with_reducible refine z_calln ?_)
local macro_rules | `(tactic| walk_at "z") => `(tactic| with_reducible refine z_xfS ?_)
local macro_rules | `(tactic| walk_at "z") => `(tactic| with_reducible refine z_lcS ?_)
local macro_rules | `(tactic| walk_at "z") => `(tactic| with_reducible refine z_lcRS ?_)
local macro_rules | `(tactic| walk_at "z") => `(tactic| with_reducible refine z_lcZS ?_)
local macro_rules | `(tactic| walk_at "z") => `(tactic| with_reducible refine z_foS ?_)
local macro_rules | `(tactic| walk_at "z") => `(tactic| with_reducible refine z_for1 ?_)
local macro_rules | `(tactic| walk_at "z") => `(tactic| with_reducible refine z_tsl ?_)
local macro_rules | `(tactic| walk_at "z") => `(tactic| with_reducible refine z_np ?_)
local macro_rules | `(tactic| walk_at "z") => `(tactic| with_reducible refine z_pt ?_)
local macro_rules | `(tactic| walk_at "z") => `(tactic| with_reducible refine z_pti ?_)
local macro_rules | `(tactic| walk_at "z") => `(tactic| with_reducible refine z_catI ?_)
local macro_rules | `(tactic| walk_at "z") => `(tactic| with_reducible refine z_isNI ?_)
local macro_rules | `(tactic| walk_at "z") => `(tactic| with_reducible refine z_isNN ?_)
local macro_rules | `(tactic| walk_at "z") => `(tactic| with_reducible refine z_notNI ?_)
local macro_rules | `(tactic| walk_at "z") => `(tactic| with_reducible refine z_notNN ?_)
local macro_rules | `(tactic| walk_at "z") => `(tactic| with_reducible refine z_gsub ?_)
local macro_rules | `(tactic| walk_at "z") => `(tactic| with_reducible refine z_isNb ?_)
local macro_rules | `(tactic| walk_at "z") => `(tactic| with_reducible refine z_notNb ?_)
local macro_rules | `(tactic| walk_at "z") => `(tactic| ((with_reducible refine' z_nlR ?zl1 ?_); (case zl1 => exact Nat.le_of_ble_eq_true rfl); intro p H' hp hs he))
local macro_rules | `(tactic| walk_at "z") => `(tactic| ((with_reducible refine' z_repR ?zl1 ?zl2 ?_); (case zl1 => omega); (case zl2 => omega)))
local macro_rules | `(tactic| walk_at "z") => `(tactic| ((with_reducible refine' z_repL ?zl1 ?zl2 ?_); (case zl1 => omega); (case zl2 => omega)))
local macro_rules | `(tactic| walk_at "z") => `(tactic| ((with_reducible refine' z_lenLst ?zl1 ?_); (case zl1 => walk_at "up")))
local macro_rules | `(tactic| walk_at "z") => `(tactic| ((with_reducible refine' z_cat ?zl1 ?zl2 ?zl3 ?_); (case zl1 => walk_at "up"); (case zl2 => walk_at "up"); (case zl3 => (simp only [List.length_map, List.length_cons, List.length_nil, List.length_append, List.length_replicate]; omega)); intro p H' hp hs he))
local macro_rules | `(tactic| walk_at "z") => `(tactic| with_reducible refine z_sfl ?_)
local macro_rules | `(tactic| walk_at "z") => `(tactic| with_reducible refine z_lcES ?_)
local macro_rules | `(tactic| walk_at "z") => `(tactic| with_reducible refine z_lcMS ?_)
local macro_rules | `(tactic| walk_at "z") => `(tactic| with_reducible refine z_foES ?_)
local macro_rules | `(tactic| walk_at "z") => `(tactic| with_reducible refine z_fo3S ?_)
local macro_rules | `(tactic| walk_at "z") => `(tactic| with_reducible refine z_sta ?_)
local macro_rules | `(tactic| walk_at "z") => `(tactic| with_reducible refine z_sta1 ?_)
local macro_rules | `(tactic| walk_at "z") => `(tactic| with_reducible refine z_lcTS ?_)
local macro_rules | `(tactic| walk_at "z") => `(tactic| with_reducible refine z_foTS ?_)
local macro_rules | `(tactic| walk_at "z") => `(tactic| with_reducible refine z_revTS ?_)
local macro_rules | `(tactic| walk_at "z") => `(tactic| with_reducible refine z_max2 ?_)
local macro_rules | `(tactic| walk_at "z") => `(tactic| ((with_reducible refine' z_fldt ?zc1 ?zc2 ?zl1 ?zl2 ?_); (case zc1 => exact Lw.cl_Ratio (by assumption)); (case zc2 => exact Lw.na_Ratio_top (by assumption)); (case zl1 => exact rfl); (case zl2 => walk_at "up")))
local macro_rules | `(tactic| walk_at "z") => `(tactic| ((with_reducible refine' z_fldb ?zc1 ?zc2 ?zl1 ?zl2 ?_); (case zc1 => exact Lw.cl_Ratio (by assumption)); (case zc2 => exact Lw.na_Ratio_bottom (by assumption)); (case zl1 => exact rfl); (case zl2 => walk_at "up")))
local macro_rules | `(tactic| walk_at "z") => `(tactic| ((with_reducible refine' u_mtF ?zl1 ?_); (case zl1 => walk_at "up")))
local macro_rules | `(tactic| walk_at "z") => `(tactic| ((with_reducible refine' z_ixLst ?zl1 ?zl2 ?_); (case zl1 => walk_at "up"); (case zl2 => exact rfl)))
local macro_rules | `(tactic| walk_at "z") => `(tactic| with_reducible refine z_for3 ?_)
local macro_rules | `(tactic| walk_at "z") => `(tactic| with_reducible refine z_tbits ?_)
local macro_rules | `(tactic| walk_at "z") => `(tactic| with_reducible refine z_tbi ?_)
local macro_rules | `(tactic| walk_at "z") => `(tactic| ((with_reducible refine' z_div2S ?zl1 ?zl2 ?_); (case zl1 => omega); (case zl2 => omega)))
local macro_rules | `(tactic| walk_at "z") => `(tactic| ((with_reducible refine' u_mod ?zl1 ?_); (case zl1 => omega)))
local macro_rules | `(tactic| walk_at "z") => `(tactic| with_reducible refine u_who ?_)
local macro_rules | `(tactic| walk_at "z") => `(tactic| with_reducible refine z_asg2 ?_)
theorem same02g {H H1 H2 : Hp} (h : Same H1 H2) (e : Same H H1) : Same H H2 := e.trans h
local macro_rules | `(tactic| walk_at "sm") => `(tactic| first
  | assumption
  | exact fun _ _ h => h
  | (refine' same02g (by assumption) ?zsm; case zsm => walk_at "sm"))
local macro_rules | `(tactic| walk_at "up") => `(tactic| first
  | assumption
  | (with_reducible refine' IsR.mono (by assumption) ?zup; case zup => walk_at "up")
  | (with_reducible refine' Fr.mono (by assumption) ?zup; case zup => walk_at "up")
  | (with_reducible refine' Same.at (by assumption) ?zup; case zup => walk_at "up")
  | (with_reducible refine' Facs.mono (by assumption) ?zup; case zup => walk_at "up")
  | (with_reducible refine' IsPool.mono (by assumption) ?zup; case zup => walk_at "up")
  | fail)
section
variable {P : Program} {w : World} {K : Frag} {mg : Str → Option Value} {base : Heap}
theorem ok_law_exact_error (L : Lw K mg) {fd : FuncData} (F : FunD K "_law_exact_error" "_law_exact_error" (defArgs s_law_exact_error) (defBody s_law_exact_error) (defScope s_law_exact_error) (df_law_exact_error.dvs K) (df_law_exact_error.kws K) (He.fAd K ("_law_exact_error", none)) fd) : FnOk P w K mg base (L2N.CX P w) 5 (He.fAd K ("_law_exact_error", none)) fd (["ratio", "k"] : List Str) (sp2 (fs_xe K)) := by
  refine FunD.ok F sc_law_exact_error len2 (fun cdv A outer s H vs Q E hr h => ?_)
  obtain ⟨a, b, rfl, h⟩ := h
  refine ⟨_, (pss_cons (L2N.ps_try_as (i := 2) rfl rfl sc_law_exact_error.nd rfl rfl ⟨rfl, by decide, Or.inl L.g_OutOfBounds⟩ (L2N.takes_of rfl rfl rfl rfl)
    (fun W pn xe tk po => (pss_one (ps_expr (pe_c (c_exact_root (K := K) L) hr (by decide) tk (pa_cons (pv 0) (pa_cons (pv 1) pa_nil))))))
    (fun a oe cls dd pn hz hf => (pss_cons (ps_if (PW.pt (pw_or (pt_val (pe_callB (call_isEx L.ec_OutOfBounds (L2N.Zn.zc hz) hf) (by rfl) L.f_isinstance (by decide +kernel) (pa_cons (pv 2) (pa_cons (pe_cls L.g_Negative) pa_nil)))) (pw_or1 (pt_not (pt_val (pe_callB (call_isEx L.ec_OutOfBounds (L2N.Zn.zc hz) hf) (by rfl) L.f_isinstance (by decide +kernel) (pa_cons (pv 2) (pa_cons (pe_cls L.g_NoughtError) pa_nil)))))))) (pss_one (ps_ret pe_bl)) pss_nil)
    (pss_one (ps_ret (pe_ch (ch_law_whole (K := K) L) (room_suite hr _) (by decide) (hot_suite hz hf) (pa_cons (pe_xf L.xf_OutOfBounds L.na_OutOfBounds_value (L2N.Zn.zc hz) hf (pv 2)) (pa_cons (pv 1) pa_nil))))))))
    (pss_one (ps_ret pe_bl))), ?_⟩
  rw [show L2.start (["ratio", "k", "e"] : List Str) [a, b] = [some a, some b, none] from rfl]
  obtain ⟨p, t, b, k, rfl, rfl, hr, b0, gg, t0, hk, q⟩ := h
  try dsimp only [List.set]
  walk_at "zz"
  refine ⟨_, _, rfl, p, t, b, k, 0, rfl, rfl, hr, b0, gg, fun z => absurd z (by omega), fun _ _ d H' s hd => ?_, fun _ z1 z2 => absurd ⟨z1, z2⟩ hk⟩
  refine z_as L.xm_OutOfBounds_OutOfBounds (fun a ha => ?_)
  try dsimp only [List.set]
  walk_at "zz"
  refine z_isX hd L.kt_OutOfBounds_Negative ?_
  try dsimp only [List.set]
  walk_at "zz"
  refine z_isX hd L.kt_OutOfBounds_NoughtError ?_
  try dsimp only [List.set]
  walk_at "zz"
  refine z_xf hd lkA ?_
  try dsimp only [List.set]
  walk_at "zz"
  rw [decide_eq_true rfl]
  exact q _ s
theorem c_law_exact_error (L : Lw K mg) : Cal P w K mg base 5 "_law_exact_error" (sp2 (fs_xe K)) [] := by
  obtain ⟨fd, F⟩ := L.d_law_exact_error
  exact ⟨⟨_, fd, ["ratio", "k"], [], ok_law_exact_error L F, L.g_law_exact_error, F.kp, F.bindsN (fun _ _ _ _ _ _ us hl => match us, hl with | [_, _], _ => rfl), .nil⟩⟩
theorem ok_law_negative (L : Lw K mg) {fd : FuncData} (F : FunD K "_law_negative" "_law_negative" (defArgs s_law_negative) (defBody s_law_negative) (defScope s_law_negative) (df_law_negative.dvs K) (df_law_negative.kws K) (He.fAd K ("_law_negative", none)) fd) : FnOk P w K mg base (L2N.CX P w) 5 (He.fAd K ("_law_negative", none)) fd (["top", "bottom", "k", "grain"] : List Str) (sp4 (fs_ng K)) := by
  refine FunD.ok F sc_law_negative len4 (fun cdv A outer s H vs Q E hr h => ?_)
  obtain ⟨a, b, c, d, rfl, h⟩ := h
  refine ⟨_, (pss_cons (ps_set (i := 4) sc_law_negative.nd rfl (by first | exact Or.inl rfl | exact Or.inr rfl) (pe_mk (c_RatioD_initD (K := K) L) hr (by decide) (L2N.takes_of rfl rfl rfl rfl) (pa_cons (pv 0) (pa_cons (pv 1) pa_nil))))
    (pss_cons (ps_set (i := 5) sc_law_negative.nd rfl (by first | exact Or.inl rfl | exact Or.inr rfl) pe_bl)
    (pss_cons (L2N.ps_try_as (i := 6) rfl rfl sc_law_negative.nd rfl rfl ⟨rfl, by decide, Or.inl L.g_Negative⟩ (L2N.takes_of rfl rfl rfl rfl)
    (fun W pn xe tk po => (pss_one (ps_expr (pe_c (c_root_below (K := K) L) hr (by decide) tk (pa_cons (pv 4) (pa_cons (pv 2) (pa_cons (pv 3) pa_nil)))))))
    (fun a oe cls dd pn hz hf => (pss_cons (ps_set (i := 5) sc_law_negative.nd rfl (by first | exact Or.inl rfl | exact Or.inr rfl) (pe_and (pe_callB (call_isEx L.ec_Negative (L2N.Zn.zc hz) hf) (by rfl) L.f_isinstance (by decide +kernel) (pa_cons (pv 6) (pa_cons (pe_cls L.g_NoughtError) pa_nil))) (pe_one (pe_not (pe_callB (call_isEx L.ec_Negative (L2N.Zn.zc hz) hf) (by rfl) L.f_isinstance (by decide +kernel) (pa_cons (pv 6) (pa_cons (pe_cls L.g_OutOfBounds) pa_nil)))))))
    (pss_one (ps_if (pt_not (pt_val (pe_ch (ch_law_is (K := K) L) (room_suite hr _) (by decide) (hot_suite hz hf) (pa_cons (pe_xf L.xf_Negative L.na_Negative_ratio (L2N.Zn.zc hz) hf (pv 6)) (pa_cons (pv 0) (pa_cons (pv 1) pa_nil)))))) (pss_one (ps_ret pe_bl)) pss_nil)))))
    (pss_cons (ps_if (pt_not (pt_val (pv 5))) (pss_one (ps_ret pe_bl)) pss_nil)
    (pss_cons (L2N.ps_try_as (i := 6) rfl rfl sc_law_negative.nd rfl rfl ⟨rfl, by decide, Or.inl L.g_Negative⟩ (L2N.takes_of rfl rfl rfl rfl)
    (fun W pn xe tk po => (pss_one (ps_expr (pe_c (c_exact_root (K := K) L) hr (by decide) tk (pa_cons (pv 4) (pa_cons (pv 2) pa_nil))))))
    (fun a oe cls dd pn hz hf => (pss_one (ps_ret (pe_and (pe_callB (call_isEx L.ec_Negative (L2N.Zn.zc hz) hf) (by rfl) L.f_isinstance (by decide +kernel) (pa_cons (pv 6) (pa_cons (pe_cls L.g_NoughtError) pa_nil))) (pe_one (pe_ch (ch_law_is (K := K) L) (room_suite hr _) (by decide) (hot_suite hz hf) (pa_cons (pe_xf L.xf_Negative L.na_Negative_ratio (L2N.Zn.zc hz) hf (pv 6)) (pa_cons (pv 0) (pa_cons (pv 1) pa_nil))))))))))
    (pss_one (ps_ret pe_bl))))))), ?_⟩
  rw [show L2.start (["top", "bottom", "k", "grain", "ratio", "told", "e"] : List Str) [a, b, c, d] = [some a, some b, some c, some d, none, none, none] from rfl]
  obtain ⟨T, w, k, g, B, rfl, rfl, rfl, rfl, T0, w0, bw, hB, q⟩ := h
  try dsimp only [List.set]
  walk_at "zz"
  refine u_mkF w0 (bw.up hB) rfl (fun p H1 s1 hF => ?_)
  try dsimp only [List.set]
  walk_at "zz"
  refine ⟨_, _, _, rfl, p, T, w, k, g, 0, 0, rfl, rfl, rfl, hF, w0, fun _ d H' s hd => ?_, fun z => absurd z (by omega), fun z => absurd z (by omega), fun z => absurd z (by omega)⟩
  refine z_as L.xm_Negative_Negative (fun a ha => ?_)
  try dsimp only [List.set]
  walk_at "zz"
  refine z_isX hd L.kt_Negative_NoughtError ?_
  try dsimp only [List.set]
  walk_at "zz"
  refine z_isX hd L.kt_Negative_OutOfBounds ?_
  try dsimp only [List.set]
  walk_at "zz"
  refine z_xf hd lkA ?_
  try dsimp only [List.set]
  walk_at "zz"
  refine u_lis (hF.mono s) w0 bw hB ?_
  try dsimp only [List.set]
  walk_at "zz"
  obtain ⟨t, b, hr, b0, gg, e⟩ := hF.mono s
  have t0 : t < 0 := (fr_neg b0 w0 e).1.mpr T0
  refine ⟨_, _, rfl, p, t, b, k, 0, rfl, rfl, hr, b0, gg, fun _ d2 H2 s2 hd2 => ?_, fun z => absurd z (by omega), fun z => absurd z (by omega)⟩
  refine z_as L.xm_Negative_Negative (fun a ha => ?_)
  try dsimp only [List.set]
  walk_at "zz"
  refine z_isX hd2 L.kt_Negative_NoughtError ?_
  try dsimp only [List.set]
  walk_at "zz"
  refine z_xf hd2 lkA ?_
  try dsimp only [List.set]
  walk_at "zz"
  refine u_lis ((hF.mono s).mono s2) w0 bw hB ?_
  exact q _ ((s1.trans s).trans s2)
theorem c_law_negative (L : Lw K mg) : Cal P w K mg base 5 "_law_negative" (sp4 (fs_ng K)) [] := by
  obtain ⟨fd, F⟩ := L.d_law_negative
  exact ⟨⟨_, fd, ["top", "bottom", "k", "grain"], [], ok_law_negative L F, L.g_law_negative, F.kp, F.bindsN (fun _ _ _ _ _ _ us hl => match us, hl with | [_, _, _, _], _ => rfl), .nil⟩⟩
theorem ok_law_root_error (L : Lw K mg) {fd : FuncData} (F : FunD K "_law_root_error" "_law_root_error" (defArgs s_law_root_error) (defBody s_law_root_error) (defScope s_law_root_error) (df_law_root_error.dvs K) (df_law_root_error.kws K) (He.fAd K ("_law_root_error", none)) fd) : FnOk P w K mg base (L2N.CX P w) 5 (He.fAd K ("_law_root_error", none)) fd (["ratio", "k", "grain", "due"] : List Str) (sp4 (fs_re K)) := by
  refine FunD.ok F sc_law_root_error len4 (fun cdv A outer s H vs Q E hr h => ?_)
  obtain ⟨a, b, c, d, rfl, h⟩ := h
  refine ⟨_, (pss_cons (L2N.ps_try_as (i := 4) rfl rfl sc_law_root_error.nd rfl rfl ⟨rfl, by decide, Or.inl L.g_OutOfBounds⟩ (L2N.takes_of rfl rfl rfl rfl)
    (fun W pn xe tk po => (pss_one (ps_expr (pe_c (c_root_below (K := K) L) hr (by decide) tk (pa_cons (pv 0) (pa_cons (pv 1) (pa_cons (pv 2) pa_nil)))))))
    (fun a oe cls dd pn hz hf => (pss_cons (ps_if (PW.pt (pw_or (pt_val (pe_callB (call_isEx L.ec_OutOfBounds (L2N.Zn.zc hz) hf) (by rfl) L.f_isinstance (by decide +kernel) (pa_cons (pv 4) (pa_cons (pe_cls L.g_Negative) pa_nil)))) (pw_or1 (pt_not (pt_val (pe_callB (call_isEx L.ec_OutOfBounds (L2N.Zn.zc hz) hf) (by rfl) L.f_isinstance (by decide +kernel) (pa_cons (pv 4) (pa_cons (pe_cls L.g_NoughtError) pa_nil)))))))) (pss_one (ps_ret pe_bl)) pss_nil)
    (pss_one (ps_ret (pe_ch (ch_law_whole (K := K) L) (room_suite hr _) (by decide) (hot_suite hz hf) (pa_cons (pe_xf L.xf_OutOfBounds L.na_OutOfBounds_value (L2N.Zn.zc hz) hf (pv 4)) (pa_cons (pv 3) pa_nil))))))))
    (pss_one (ps_ret pe_bl))), ?_⟩
  rw [show L2.start (["ratio", "k", "grain", "due", "e"] : List Str) [a, b, c, d] = [some a, some b, some c, some d, none] from rfl]
  obtain ⟨p, T, w, k, g, due, rfl, rfl, rfl, rfl, hF, w0, T0, hc, q⟩ := h
  try dsimp only [List.set]
  walk_at "zz"
  refine ⟨_, _, _, rfl, p, T, w, k, g, 0, 0, rfl, rfl, rfl, hF, w0, fun z => absurd z (by omega), fun _ _ d H' s hd => ?_, fun _ _ _ _ d H' s hd => ?_, fun _ z1 z2 z3 z4 => ?_⟩
  · have ed : due = k := by
      rcases hc with h | h
      · exact h.2
      · exact ((by assumption : ¬ (1 ≤ k ∧ k ≤ 5000)) ⟨h.1, h.2.1⟩).elim
    subst ed
    refine z_as L.xm_OutOfBounds_OutOfBounds (fun a ha => ?_)
    try dsimp only [List.set]
    walk_at "zz"
    refine z_isX hd L.kt_OutOfBounds_Negative ?_
    try dsimp only [List.set]
    walk_at "zz"
    refine z_isX hd L.kt_OutOfBounds_NoughtError ?_
    try dsimp only [List.set]
    walk_at "zz"
    refine z_xf hd lkA ?_
    try dsimp only [List.set]
    walk_at "zz"
    rw [decide_eq_true rfl]
    exact q _ s
  · have ed : due = g := by
      rcases hc with h | h
      · exact (h.1 ⟨by assumption, by assumption⟩).elim
      · exact h.2.2.2
    subst ed
    refine z_as L.xm_OutOfBounds_OutOfBounds (fun a ha => ?_)
    try dsimp only [List.set]
    walk_at "zz"
    refine z_isX hd L.kt_OutOfBounds_Negative ?_
    try dsimp only [List.set]
    walk_at "zz"
    refine z_isX hd L.kt_OutOfBounds_NoughtError ?_
    try dsimp only [List.set]
    walk_at "zz"
    refine z_xf hd lkA ?_
    try dsimp only [List.set]
    walk_at "zz"
    rw [decide_eq_true rfl]
    exact q _ s
  · rcases hc with h | h
    · exact absurd ⟨z1, z2⟩ h.1
    · exact absurd ⟨z3, z4⟩ h.2.2.1
theorem c_law_root_error (L : Lw K mg) : Cal P w K mg base 5 "_law_root_error" (sp4 (fs_re K)) [] := by
  obtain ⟨fd, F⟩ := L.d_law_root_error
  exact ⟨⟨_, fd, ["ratio", "k", "grain", "due"], [], ok_law_root_error L F, L.g_law_root_error, F.kp, F.bindsN (fun _ _ _ _ _ _ us hl => match us, hl with | [_, _, _, _], _ => rfl), .nil⟩⟩
end
end T
set_option maxHeartbeats 4000000
namespace T
open PySem PySem.Spec PyProof.Rows L2 Z
theorem u_cell {H : Hp} {Q : VK} {E : XK} {p : Addr} {k : Int} (h : IsPool H p) (h0 : 0 ≤ k) (q : ∀ c, Q (.int c) H) : sp2 fs_cell [.ref p, .int k] H Q E := ⟨_, _, rfl, p, k, rfl, rfl, h, h0, q⟩
theorem z_p60b {H : Hp} {Q : VK} (q : Q (.int 1000000000000000000000000000000000000000000000000000000000000) H) : zPow (.int 10) (.int 60) H Q := z_p60 q
theorem z_p12 {H : Hp} {Q : VK} (q : Q (.int 1000000000000) H) : zPow (.int 10) (.int 12) H Q := z_pow ⟨by decide, by decide, by decide⟩ q
theorem z_p30 {H : Hp} {Q : VK} (q : Q (.int 1000000000000000000000000000000) H) : zPow (.int 10) (.int 30) H Q := z_pow ⟨by decide, by decide, by decide⟩ q
theorem z_p6 {H : Hp} {Q : VK} (q : Q (.int 1000000) H) : zPow (.int 10) (.int 6) H Q := z_pow ⟨by decide, by decide, by decide⟩ q
theorem b60 {x : Int} (h0 : 0 ≤ x) (h : x ≤ 1000000000000000000000000000000000000000000000000000000000000) : Bits 400 x := by
  have e : (1000000000000000000000000000000000000000000000000000000000000 : Nat) < 2 ^ 400 := by decide
  unfold Bits
  omega
theorem sizes {pp qq mo s : Int} {k : Nat} (p0 : 0 ≤ pp) (p1 : pp ≤ mo) (q0 : 0 < qq) (q1 : qq ≤ mo) (m2 : mo ≤ 1000000000000) (m7 : s = 7 → mo = 12) (hk : 1 ≤ k ∧ k ≤ 9 ∧ s < 7 ∨ 64 ≤ k ∧ k ≤ 5000 ∧ s = 7) (h200 : k ≤ 200) :
    ∃ bb BB : Nat, Bits bb pp ∧ Bits bb qq ∧ bb * k + 2 ≤ BB ∧ (BB = 400 ∨ 64 ≤ k ∧ BB = 802) := by
  rcases hk with ⟨k1, k2, _⟩ | ⟨k1, k2, k3⟩
  · exact ⟨40, 400, Bits.small (n := 40) (by show -(1099511627776 : Int) < pp; omega) (by show pp < (1099511627776 : Int); omega), Bits.small (n := 40) (by show -(1099511627776 : Int) < qq; omega) (by show qq < (1099511627776 : Int); omega), by omega, .inl rfl⟩
  · have := m7 k3
    exact ⟨4, 802, Bits.small (n := 4) (by show -(16 : Int) < pp; omega) (by show pp < (16 : Int); omega), Bits.small (n := 4) (by show -(16 : Int) < qq; omega) (by show qq < (16 : Int); omega), by omega, .inr ⟨k1, rfl⟩⟩
theorem at8e {s : Int} (h0 : 0 ≤ s) (h1 : s < 8) : ∃ n : Nat, 64 ≤ n ∧ n ≤ 5000 ∧ atI [V.int 200, V.int 64, V.int 199, V.int 5000, V.int 128, V.int 65, V.int 4999, V.int 1000] s = some (.int (n : Int)) := by
  have h : s = 0 ∨ s = 1 ∨ s = 2 ∨ s = 3 ∨ s = 4 ∨ s = 5 ∨ s = 6 ∨ s = 7 := by omega
  rcases h with rfl | rfl | rfl | rfl | rfl | rfl | rfl | rfl
  · exact ⟨200, by decide, by decide, rfl⟩
  · exact ⟨64, by decide, by decide, rfl⟩
  · exact ⟨199, by decide, by decide, rfl⟩
  · exact ⟨5000, by decide, by decide, rfl⟩
  · exact ⟨128, by decide, by decide, rfl⟩
  · exact ⟨65, by decide, by decide, rfl⟩
  · exact ⟨4999, by decide, by decide, rfl⟩
  · exact ⟨1000, by decide, by decide, rfl⟩
theorem at8m {s : Int} (h0 : 0 ≤ s) (h1 : s ≤ 7) : ∃ n : Int, 12 ≤ n ∧ n ≤ 1000000000000 ∧ (s = 7 → n = 12) ∧ atI [V.int 12, V.int 12, V.int 12, V.int 12, V.int 60, V.int 60, V.int 1000000000000, V.int 12] s = some (.int n) := by
  have h : s = 0 ∨ s = 1 ∨ s = 2 ∨ s = 3 ∨ s = 4 ∨ s = 5 ∨ s = 6 ∨ s = 7 := by omega
  rcases h with rfl | rfl | rfl | rfl | rfl | rfl | rfl | rfl <;> exact ⟨_, by decide, by decide, by decide, rfl⟩
def fs_ex (K : Frag) : F2 := fun x y H Q _ => ∃ (p : Addr) (s : Int), x = .ref p ∧ y = .int s ∧ IsPool H p ∧ 0 ≤ s ∧ s ≤ 7 ∧ ∀ (k : Nat) H', Same H H' → (1 ≤ k ∧ k ≤ 9 ∧ s < 7 ∨ 64 ≤ k ∧ k ≤ 5000 ∧ s = 7) → Q (.int (k : Int)) H'
def fs_gr : F3 := fun x y z H Q _ => ∃ (p : Addr) (s : Int) (k : Nat), x = .ref p ∧ y = .int s ∧ z = .int (k : Int) ∧ IsPool H p ∧ 0 ≤ s ∧ s ≤ 7 ∧ ∀ g H', Same H H' → 1 ≤ g → g ≤ 1000000000000000000000000000000000000000000000000000000000000 → (9 < k → g ≤ 12) → Q (.int g) H'
def fs_fr : F3 := fun x y z H Q _ => ∃ (p : Addr) (s : Int) (k : Nat), x = .ref p ∧ y = .int s ∧ z = .int (k : Int) ∧ IsPool H p ∧ 0 ≤ s ∧ s ≤ 7 ∧ (1 ≤ k ∧ k ≤ 9 ∧ s < 7 ∨ 64 ≤ k ∧ k ≤ 5000 ∧ s = 7) ∧
  ∀ c T w B H', Same H H' → H' c = some (.tup [.int T, .int w]) → 0 ≤ T → 0 < w → Bits B T → Bits B w → (B = 400 ∨ 64 ≤ k ∧ B = 802) → Q (.ref c) H'
local macro_rules | `(tactic| walk_at "up") => `(tactic| first
  | assumption
  | (refine' IsR.mono (by assumption) ?zup; case zup => walk_at "up")
  | (refine' IsE.mono (by assumption) ?zup; case zup => walk_at "up")
  | (refine' Same.at (by assumption) ?zup; case zup => walk_at "up")
  | (refine' SqL.of ?zup; case zup => walk_at "up")
  | (refine' L2.Same.seq (by assumption) ?zup; case zup => walk_at "up"))
local macro_rules | `(tactic| walk_at "z") => `(tactic| first
  | ((with_reducible refine' z_var ?zvh ?_); (case zvh => exact rfl))
  | with_reducible refine z_c ?_
  | with_reducible refine z_cons ?_
  | with_reducible refine z_nil ?_
  | with_reducible refine z_op ?_
  | with_reducible refine z_nx ?_
  | with_reducible refine z_seq ?_
  | with_reducible refine z_asg ?_
  | with_reducible refine z_asgG ?_
  | with_reducible refine z_call ?_
  | with_reducible refine z_sq0 ?_
  | with_reducible refine z_sq1 ?_
  | with_reducible refine z_ifS ?_
  | with_reducible refine z_test ?_
  | with_reducible refine z_tb ?_
  | with_reducible refine z_bl ?_
  | with_reducible refine z_blI ?_
  | with_reducible refine z_ret ?_
  | with_reducible refine z_rt ?_
  | with_reducible refine z_T ?_
  | with_reducible refine z_F ?_
  | with_reducible refine z_add ?_
  | with_reducible refine z_sub ?_
  | with_reducible refine z_neg ?_
  | with_reducible refine z_un ?_
  | with_reducible refine z_eqI ?_
  | with_reducible refine z_neI ?_
  | with_reducible refine z_lt ?_
  | with_reducible refine z_le ?_
  | with_reducible refine z_gt ?_
  | with_reducible refine z_ge ?_
  | with_reducible refine z_not ?_
  | with_reducible refine z_and ?_
  | with_reducible refine z_or ?_
  | with_reducible refine z_andV ?_
  | with_reducible refine z_orV ?_
  | with_reducible refine z_notV ?_
  | with_reducible refine z_if ?_
  | with_reducible refine z_cb ?_
  | with_reducible refine z_int1 ?_
  | with_reducible refine z_intb ?_
  | with_reducible refine z_abs ?_
  | with_reducible refine z_gcd ?_
  | with_reducible refine z_isi_ii ?_
  | with_reducible refine z_isi_ib ?_
  | with_reducible refine z_next ?_
  | with_reducible refine z_drop ?_
  | with_reducible refine z_par ?_
  | with_reducible refine z_par2 ?_
  | with_reducible refine z_tupN ?_
  | with_reducible refine z_lstN ?_
  | ((with_reducible refine' z_nt ?zl1 ?_); (case zl1 => exact Nat.le_of_ble_eq_true rfl); intro p H' hp hs he)
  | ((with_reducible refine' z_gtup ?zl1 ?zl2 ?_); (case zl1 => walk_at "up"); (case zl2 => exact rfl))
  | with_reducible refine z_bk ?_
  | with_reducible refine z_ct ?_
  | with_reducible refine z_break ?_
  | with_reducible refine z_cont ?_
  | with_reducible refine z_retN ?_
  | with_reducible refine z_nn ?_
  | with_reducible refine z_mk ?_
  | with_reducible refine z_gn ?_
  | with_reducible refine z_gcons ?_
  | with_reducible refine z_gnil ?_
  | with_reducible refine z_mt ?_
  | with_reducible refine z_mko ?_
  | with_reducible refine z_for2 ?_
  | with_reducible refine z_ownI ?_
  | ((with_reducible refine' z_lenL ?zl1 ?_); (case zl1 => walk_at "up"))
  | ((with_reducible refine' z_ixT ?zl1 ?zl2 ?_); (case zl1 => walk_at "up"); (case zl2 => exact rfl))
  | ((with_reducible refine' z_mulL ?zl1 ?zl2 ?_); (case zl1 => omega); (case zl2 => omega))
  | ((with_reducible refine' z_mulR ?zl1 ?zl2 ?_); (case zl1 => omega); (case zl2 => omega))
  | ((with_reducible refine' z_divS ?zl1 ?zl2 ?_); (case zl1 => omega); (case zl2 => omega))
  | ((with_reducible refine' z_mulW ?zl1 ?zl2 ?zl3 ?zl4 ?_); (case zl1 => omega); (case zl2 => omega); (case zl3 => omega); (case zl4 => omega))
  | ((with_reducible refine' z_divW ?zl1 ?zl2 ?_); (case zl1 => omega); (case zl2 => omega)))
local macro_rules | `(tactic| walk_at "zz") => `(tactic| repeat (walk_at "z"))
local macro_rules | `(tactic| walk_at "z") => `(tactic| with_reducible refine z_lstN ?_)
local macro_rules | `(tactic| walk_at "z") => `(tactic| with_reducible refine z_p6 ?_)
local macro_rules | `(tactic| walk_at "z") => `(tactic| with_reducible refine z_p12 ?_)
local macro_rules | `(tactic| walk_at "z") => `(tactic| with_reducible refine z_p13 ?_)
local macro_rules | `(tactic| walk_at "z") => `(tactic| with_reducible refine z_calln ?_)
local macro_rules | `(tactic| walk_at "z") => `(tactic| with_reducible refine z_xfS ?_)
local macro_rules | `(tactic| walk_at "z") => `(tactic| with_reducible refine z_lcS ?_)
local macro_rules | `(tactic| walk_at "z") => `(tactic| with_reducible refine z_lcRS ?_)
local macro_rules | `(tactic| walk_at "z") => `(tactic| with_reducible refine z_lcZS ?_)
local macro_rules | `(tactic| walk_at "z") => `(tactic| with_reducible refine z_foS ?_)
local macro_rules | `(tactic| walk_at "z") => `(tactic| with_reducible refine z_for1 ?_)
local macro_rules | `(tactic| walk_at "z") => `(tactic| with_reducible refine z_tsl ?_)
local macro_rules | `(tactic| walk_at "z") => `(tactic| with_reducible refine z_np ?_)
local macro_rules | `(tactic| walk_at "z") => `(tactic| with_reducible refine z_pt ?_)
local macro_rules | `(tactic| walk_at "z") => `(tactic| with_reducible refine z_pti ?_)
local macro_rules | `(tactic| walk_at "z") => `(tactic| with_reducible refine z_catI ?_)
local macro_rules | `(tactic| walk_at "z") => `(tactic| with_reducible refine z_isNI ?_)
local macro_rules | `(tactic| walk_at "z") => `(tactic| with_reducible refine z_isNN ?_)
local macro_rules | `(tactic| walk_at "z") => `(tactic| with_reducible refine z_notNI ?_)
local macro_rules | `(tactic| walk_at "z") => `(tactic| with_reducible refine z_notNN ?_)
local macro_rules | `(tactic| walk_at "z") => `(tactic| with_reducible refine z_gsub ?_)
local macro_rules | `(tactic| walk_at "z") => `(tactic| with_reducible refine z_isNb ?_)
local macro_rules | `(tactic| walk_at "z") => `(tactic| with_reducible refine z_notNb ?_)
local macro_rules | `(tactic| walk_at "z") => `(tactic| ((with_reducible refine' z_nlR ?zl1 ?_); (case zl1 => exact Nat.le_of_ble_eq_true rfl); intro p H' hp hs he))
local macro_rules | `(tactic| walk_at "z") => `(tactic| ((with_reducible refine' z_repR ?zl1 ?zl2 ?_); (case zl1 => omega); (case zl2 => omega)))
local macro_rules | `(tactic| walk_at "z") => `(tactic| ((with_reducible refine' z_repL ?zl1 ?zl2 ?_); (case zl1 => omega); (case zl2 => omega)))
local macro_rules | `(tactic| walk_at "z") => `(tactic| ((with_reducible refine' z_lenLst ?zl1 ?_); (case zl1 => walk_at "up")))
local macro_rules | `(tactic| walk_at "z") => `(tactic| ((with_reducible refine' z_cat ?zl1 ?zl2 ?zl3 ?_); (case zl1 => walk_at "up"); (case zl2 => walk_at "up"); (case zl3 => (simp only [List.length_map, List.length_cons, List.length_nil, List.length_append, List.length_replicate]; omega)); intro p H' hp hs he))
local macro_rules | `(tactic| walk_at "z") => `(tactic| with_reducible refine z_sfl ?_)
local macro_rules | `(tactic| walk_at "z") => `(tactic| with_reducible refine z_lcES ?_)
local macro_rules | `(tactic| walk_at "z") => `(tactic| with_reducible refine z_lcMS ?_)
local macro_rules | `(tactic| walk_at "z") => `(tactic| with_reducible refine z_foES ?_)
local macro_rules | `(tactic| walk_at "z") => `(tactic| with_reducible refine z_fo3S ?_)
local macro_rules | `(tactic| walk_at "z") => `(tactic| with_reducible refine z_sta ?_)
local macro_rules | `(tactic| walk_at "z") => `(tactic| with_reducible refine z_sta1 ?_)
local macro_rules | `(tactic| walk_at "z") => `(tactic| with_reducible refine z_lcTS ?_)
local macro_rules | `(tactic| walk_at "z") => `(tactic| with_reducible refine z_foTS ?_)
local macro_rules | `(tactic| walk_at "z") => `(tactic| with_reducible refine z_revTS ?_)
local macro_rules | `(tactic| walk_at "z") => `(tactic| with_reducible refine z_max2 ?_)
local macro_rules | `(tactic| walk_at "z") => `(tactic| ((with_reducible refine' z_fldt ?zc1 ?zc2 ?zl1 ?zl2 ?_); (case zc1 => exact Lw.cl_Ratio (by assumption)); (case zc2 => exact Lw.na_Ratio_top (by assumption)); (case zl1 => exact rfl); (case zl2 => walk_at "up")))
local macro_rules | `(tactic| walk_at "z") => `(tactic| ((with_reducible refine' z_fldb ?zc1 ?zc2 ?zl1 ?zl2 ?_); (case zc1 => exact Lw.cl_Ratio (by assumption)); (case zc2 => exact Lw.na_Ratio_bottom (by assumption)); (case zl1 => exact rfl); (case zl2 => walk_at "up")))
local macro_rules | `(tactic| walk_at "z") => `(tactic| ((with_reducible refine' u_mtF ?zl1 ?_); (case zl1 => walk_at "up")))
local macro_rules | `(tactic| walk_at "z") => `(tactic| ((with_reducible refine' z_ixLst ?zl1 ?zl2 ?_); (case zl1 => walk_at "up"); (case zl2 => exact rfl)))
local macro_rules | `(tactic| walk_at "z") => `(tactic| with_reducible refine z_for3 ?_)
local macro_rules | `(tactic| walk_at "z") => `(tactic| with_reducible refine z_tbits ?_)
local macro_rules | `(tactic| walk_at "z") => `(tactic| with_reducible refine z_tbi ?_)
local macro_rules | `(tactic| walk_at "z") => `(tactic| ((with_reducible refine' z_div2S ?zl1 ?zl2 ?_); (case zl1 => omega); (case zl2 => omega)))
local macro_rules | `(tactic| walk_at "z") => `(tactic| with_reducible refine u_who ?_)
local macro_rules | `(tactic| walk_at "z") => `(tactic| with_reducible refine z_asg2 ?_)
local macro_rules | `(tactic| walk_at "z") => `(tactic| ((with_reducible refine' u_cell ?zl1 ?zl2 ?_); (case zl1 => walk_at "up"); (case zl2 => omega); intro c))
local macro_rules | `(tactic| walk_at "z") => `(tactic| ((with_reducible refine' u_mod ?zl1 ?_); (case zl1 => omega)))
local macro_rules | `(tactic| walk_at "z") => `(tactic| with_reducible refine z_p60b ?_)
local macro_rules | `(tactic| walk_at "z") => `(tactic| with_reducible refine z_p12 ?_)
local macro_rules | `(tactic| walk_at "z") => `(tactic| with_reducible refine z_p30 ?_)
local macro_rules | `(tactic| walk_at "z") => `(tactic| with_reducible refine z_p6 ?_)
theorem same02h {H H1 H2 : Hp} (h : Same H1 H2) (e : Same H H1) : Same H H2 := e.trans h
local macro_rules | `(tactic| walk_at "sm") => `(tactic| first
  | assumption
  | exact fun _ _ h => h
  | (refine' same02h (by assumption) ?zsm; case zsm => walk_at "sm"))
local macro_rules | `(tactic| walk_at "up") => `(tactic| first
  | assumption
  | (with_reducible refine' IsR.mono (by assumption) ?zup; case zup => walk_at "up")
  | (with_reducible refine' Fr.mono (by assumption) ?zup; case zup => walk_at "up")
  | (with_reducible refine' Same.at (by assumption) ?zup; case zup => walk_at "up")
  | (with_reducible refine' Facs.mono (by assumption) ?zup; case zup => walk_at "up")
  | (with_reducible refine' IsPool.mono (by assumption) ?zup; case zup => walk_at "up")
  | fail)
section
variable {P : Program} {w : World} {K : Frag} {mg : Str → Option Value} {base : Heap}
theorem ok_law_exponent (L : Lw K mg) {fd : FuncData} (F : FunD K "_law_exponent" "_law_exponent" (defArgs s_law_exponent) (defBody s_law_exponent) (defScope s_law_exponent) (df_law_exponent.dvs K) (df_law_exponent.kws K) (He.fAd K ("_law_exponent", none)) fd) : FnOk P w K mg base (L2N.CX P w) 2 (He.fAd K ("_law_exponent", none)) fd (["script", "size"] : List Str) (sp2 (fs_ex K)) := by
  refine FunD.ok F sc_law_exponent len2 (fun cdv A outer s H vs Q E hr h => ?_)
  obtain ⟨a, b, rfl, h⟩ := h
  refine ⟨_, (pss_cons (ps_set (i := 2) sc_law_exponent.nd rfl (by first | exact Or.inl rfl | exact Or.inr rfl) (pe_c (c_law_cell (K := K) L) hr (by decide) (L2N.takes_of rfl rfl rfl rfl) (pa_cons (pv 0) (pa_cons pe_int pa_nil))))
    (pss_cons (ps_if (pt_cmpR op_eq (pv 1) pe_int (nomark _)) (pss_one (ps_ret (pe_ix (ix_seqK (K := K) rfl) (pe_lst (pa_cons pe_int (pa_cons pe_int (pa_cons pe_int (pa_cons pe_int (pa_cons pe_int (pa_cons pe_int (pa_cons pe_int (pa_cons pe_int pa_nil))))))))) (pe_c (c_law_mod (K := K) L) hr (by decide) (L2N.takes_of rfl rfl rfl rfl) (pa_cons (pv 2) (pa_cons pe_int pa_nil))) (fun _ _ => rfl)))) pss_nil)
    (pss_cons (ps_if (pt_cmpR o_lt (pv 1) pe_int (nomark _)) (pss_one (ps_ret (pe_op o_cat pe_int (pe_c (c_law_mod (K := K) L) hr (by decide) (L2N.takes_of rfl rfl rfl rfl) (pa_cons (pe_op o_cat (pv 2) pe_int) (pa_cons pe_int pa_nil)))))) pss_nil)
    (pss_one (ps_ret (pe_op o_cat pe_int (pe_c (c_law_mod (K := K) L) hr (by decide) (L2N.takes_of rfl rfl rfl rfl) (pa_cons (pe_op o_cat (pv 2) pe_int) (pa_cons pe_int pa_nil))))))))), ?_⟩
  rw [show L2.start (["script", "size", "cell"] : List Str) [a, b] = [some a, some b, none] from rfl]
  obtain ⟨p, s, rfl, rfl, hp, s0, s7, q⟩ := h
  try dsimp only [List.set]
  walk_at "zz"
  rename_i cc
  refine z_d2 (fun c1 => ?_) (fun c1 => ?_)
  · try dsimp only [List.set]
    walk_at "zz"
    rename_i l H1 hl s1 el
    obtain ⟨n, n1, n2, en⟩ := at8e (s := cc % 8) (by omega) (by omega)
    refine z_ixL (SqL.of el) en ?_
    try dsimp only [List.set]
    walk_at "zz"
    exact q n _ s1 (.inr ⟨n1, n2, c1⟩)
  · try dsimp only [List.set]
    walk_at "zz"
    refine z_d2 (fun c2 => ?_) (fun c2 => ?_)
    · try dsimp only [List.set]
      walk_at "zz"
      obtain ⟨k, hk⟩ : ∃ k : Nat, (k : Int) = 1 + (cc + 1) % 4 := ⟨(1 + (cc + 1) % 4).toNat, by omega⟩
      rw [← hk]
      exact q k _ (fun _ _ h => h) (.inl ⟨by omega, by omega, by omega⟩)
    · try dsimp only [List.set]
      walk_at "zz"
      obtain ⟨k, hk⟩ : ∃ k : Nat, (k : Int) = 1 + (cc + 2) % 9 := ⟨(1 + (cc + 2) % 9).toNat, by omega⟩
      rw [← hk]
      exact q k _ (fun _ _ h => h) (.inl ⟨by omega, by omega, by omega⟩)
theorem c_law_exponent (L : Lw K mg) : Cal P w K mg base 2 "_law_exponent" (sp2 (fs_ex K)) [] := by
  obtain ⟨fd, F⟩ := L.d_law_exponent
  exact ⟨⟨_, fd, ["script", "size"], [], ok_law_exponent L F, L.g_law_exponent, F.kp, F.bindsN (fun _ _ _ _ _ _ us hl => match us, hl with | [_, _], _ => rfl), .nil⟩⟩
theorem ok_law_grain (L : Lw K mg) {fd : FuncData} (F : FunD K "_law_grain" "_law_grain" (defArgs s_law_grain) (defBody s_law_grain) (defScope s_law_grain) (df_law_grain.dvs K) (df_law_grain.kws K) (He.fAd K ("_law_grain", none)) fd) : FnOk P w K mg base (L2N.CX P w) 2 (He.fAd K ("_law_grain", none)) fd (["script", "size", "k"] : List Str) (sp3 fs_gr) := by
  refine FunD.ok F sc_law_grain len3 (fun cdv A outer s H vs Q E hr h => ?_)
  obtain ⟨a, b, c, rfl, h⟩ := h
  refine ⟨_, (pss_cons (ps_set (i := 3) sc_law_grain.nd rfl (by first | exact Or.inl rfl | exact Or.inr rfl) (pe_c (c_law_cell (K := K) L) hr (by decide) (L2N.takes_of rfl rfl rfl rfl) (pa_cons (pv 0) (pa_cons pe_int pa_nil))))
    (pss_cons (ps_set (i := 4) sc_law_grain.nd rfl (by first | exact Or.inl rfl | exact Or.inr rfl) (pe_c (c_law_cell (K := K) L) hr (by decide) (L2N.takes_of rfl rfl rfl rfl) (pa_cons (pv 0) (pa_cons pe_int pa_nil))))
    (pss_cons (ps_if (pt_cmpR o_gt (pv 2) pe_int (nomark _)) (pss_one (ps_ret (pe_op o_cat pe_int (pe_c (c_law_mod (K := K) L) hr (by decide) (L2N.takes_of rfl rfl rfl rfl) (pa_cons (pe_op o_cat (pv 3) pe_int) (pa_cons pe_int pa_nil)))))) pss_nil)
    (pss_cons (ps_if (pt_cmpR op_eq (pv 1) pe_int (nomark _)) (pss_cons (ps_set (i := 5) sc_law_grain.nd rfl (by first | exact Or.inl rfl | exact Or.inr rfl) (pe_op o_pow pe_int pe_int))
    (pss_one (ps_ret (pe_ix (ix_seqK (K := K) rfl) (pe_lst (pa_cons (pv 5) (pa_cons (pe_op o_sub (pv 5) pe_int) (pa_cons (pe_op o_cat pe_int (pe_c (c_law_mod (K := K) L) hr (by decide) (L2N.takes_of rfl rfl rfl rfl) (pa_cons (pv 3) (pa_cons (pv 5) pa_nil)))) pa_nil)))) (pe_c (c_law_mod (K := K) L) hr (by decide) (L2N.takes_of rfl rfl rfl rfl) (pa_cons (pv 4) (pa_cons pe_int pa_nil))) (fun _ _ => rfl))))) pss_nil)
    (pss_cons (ps_if (pt_cmpR op_eq (pe_c (c_law_mod (K := K) L) hr (by decide) (L2N.takes_of rfl rfl rfl rfl) (pa_cons (pv 4) (pa_cons pe_int pa_nil))) pe_int (nomark _)) (pss_cons (ps_set (i := 6) sc_law_grain.nd rfl (by first | exact Or.inl rfl | exact Or.inr rfl) (pe_op o_cat pe_int (pe_c (c_law_mod (K := K) L) hr (by decide) (L2N.takes_of rfl rfl rfl rfl) (pa_cons (pe_op o_cat (pe_c (c_law_cell (K := K) L) hr (by decide) (L2N.takes_of rfl rfl rfl rfl) (pa_cons (pv 0) (pa_cons pe_int pa_nil))) pe_int) (pa_cons pe_int pa_nil)))))
    (pss_one (ps_ret (pe_op o_rep (pv 6) (pe_op o_cat pe_int (pe_c (c_law_mod (K := K) L) hr (by decide) (L2N.takes_of rfl rfl rfl rfl) (pa_cons (pv 3) (pa_cons pe_int pa_nil)))))))) pss_nil)
    (pss_one (ps_ret (pe_op o_cat pe_int (pe_c (c_law_mod (K := K) L) hr (by decide) (L2N.takes_of rfl rfl rfl rfl) (pa_cons (pe_op o_cat (pv 3) pe_int) (pa_cons (pe_op o_pow pe_int pe_int) pa_nil))))))))))), ?_⟩
  rw [show L2.start (["script", "size", "k", "drawn", "way", "most", "q"] : List Str) [a, b, c] = [some a, some b, some c, none, none, none, none] from rfl]
  obtain ⟨p, s, k, rfl, rfl, rfl, hp, s0, s7, q⟩ := h
  try dsimp only [List.set]
  walk_at "zz"
  rename_i dr wy
  refine z_d2 (fun c1 => ?_) (fun c1 => ?_)
  · try dsimp only [List.set]
    walk_at "zz"
    exact q _ _ (fun _ _ h => h) (by omega) (by omega) (fun _ => by omega)
  · try dsimp only [List.set]
    walk_at "zz"
    refine z_d2 (fun c2 => ?_) (fun c2 => ?_)
    · try dsimp only [List.set]
      walk_at "zz"
      rename_i l H1 hl s1 el
      have hx : ∃ n : Int, atI [V.int 1000000000000000000000000000000000000000000000000000000000000, V.int (1000000000000000000000000000000000000000000000000000000000000 - 1), V.int (1 + dr % 1000000000000000000000000000000000000000000000000000000000000)] (wy % 3) = some (.int n) ∧ 1 ≤ n ∧ n ≤ 1000000000000000000000000000000000000000000000000000000000000 := by
        rcases (by omega : wy % 3 = 0 ∨ wy % 3 = 1 ∨ wy % 3 = 2) with e | e | e
        · rw [e]
          exact ⟨_, rfl, by omega, by omega⟩
        · rw [e]
          exact ⟨_, rfl, by omega, by omega⟩
        · rw [e]
          exact ⟨_, rfl, by omega, by omega⟩
      obtain ⟨n, en, n1, n2⟩ := hx
      refine z_ixL (SqL.of el) en ?_
      try dsimp only [List.set]
      walk_at "zz"
      exact q _ _ s1 n1 n2 (fun _ => by omega)
    · try dsimp only [List.set]
      walk_at "zz"
      refine z_d2 (fun c3 => ?_) (fun c3 => ?_)
      · try dsimp only [List.set]
        walk_at "zz"
        rename_i c4
        have p1 : 0 < (1 + (c4 + 1) % 60) * (1 + dr % 1000) := Int.mul_pos (by omega) (by omega)
        have p2 : (1 + (c4 + 1) % 60) * (1 + dr % 1000) ≤ 60 * 1000 := Int.mul_le_mul (by omega) (by omega) (by omega) (by omega)
        exact q _ _ (fun _ _ h => h) (by omega) (by omega) (fun _ => by omega)
      · try dsimp only [List.set]
        walk_at "zz"
        exact q _ _ (fun _ _ h => h) (by omega) (by omega) (fun _ => by omega)
theorem c_law_grain (L : Lw K mg) : Cal P w K mg base 2 "_law_grain" (sp3 fs_gr) [] := by
  obtain ⟨fd, F⟩ := L.d_law_grain
  exact ⟨⟨_, fd, ["script", "size", "k"], [], ok_law_grain L F, L.g_law_grain, F.kp, F.bindsN (fun _ _ _ _ _ _ us hl => match us, hl with | [_, _, _], _ => rfl), .nil⟩⟩
theorem ok_law_fraction (L : Lw K mg) {fd : FuncData} (F : FunD K "_law_fraction" "_law_fraction" (defArgs s_law_fraction) (defBody s_law_fraction) (defScope s_law_fraction) (df_law_fraction.dvs K) (df_law_fraction.kws K) (He.fAd K ("_law_fraction", none)) fd) : FnOk P w K mg base (L2N.CX P w) 3 (He.fAd K ("_law_fraction", none)) fd (["script", "size", "k"] : List Str) (sp3 fs_fr) := by
  refine FunD.ok F sc_law_fraction len3 (fun cdv A outer s H vs Q E hr h => ?_)
  obtain ⟨a, b, c, rfl, h⟩ := h
  refine ⟨_, (pss_cons (ps_set (i := 3) sc_law_fraction.nd rfl (by first | exact Or.inl rfl | exact Or.inr rfl) (pe_c (c_law_mod (K := K) L) hr (by decide) (L2N.takes_of rfl rfl rfl rfl) (pa_cons (pe_op o_div (pe_c (c_law_cell (K := K) L) hr (by decide) (L2N.takes_of rfl rfl rfl rfl) (pa_cons (pv 0) (pa_cons pe_int pa_nil))) pe_int) (pa_cons pe_int pa_nil))))
    (pss_cons (ps_set (i := 4) sc_law_fraction.nd rfl (by first | exact Or.inl rfl | exact Or.inr rfl) (pe_ix (ix_seqK (K := K) rfl) (pe_lst (pa_cons pe_int (pa_cons pe_int (pa_cons pe_int (pa_cons pe_int (pa_cons pe_int (pa_cons pe_int (pa_cons (pe_op o_pow pe_int pe_int) (pa_cons pe_int pa_nil))))))))) (pv 1) (fun _ _ => rfl)))
    (pss_cons (ps_set (i := 5) sc_law_fraction.nd rfl (by first | exact Or.inl rfl | exact Or.inr rfl) (pe_c (c_law_mod (K := K) L) hr (by decide) (L2N.takes_of rfl rfl rfl rfl) (pa_cons (pe_op o_cat (pe_c (c_law_cell (K := K) L) hr (by decide) (L2N.takes_of rfl rfl rfl rfl) (pa_cons (pv 0) (pa_cons pe_int pa_nil))) pe_int) (pa_cons (pe_op o_cat (pv 4) pe_int) pa_nil))))
    (pss_cons (ps_set (i := 6) sc_law_fraction.nd rfl (by first | exact Or.inl rfl | exact Or.inr rfl) (pe_op o_cat pe_int (pe_c (c_law_mod (K := K) L) hr (by decide) (L2N.takes_of rfl rfl rfl rfl) (pa_cons (pe_op o_cat (pe_c (c_law_cell (K := K) L) hr (by decide) (L2N.takes_of rfl rfl rfl rfl) (pa_cons (pv 0) (pa_cons pe_int pa_nil))) pe_int) (pa_cons (pv 4) pa_nil)))))
    (pss_cons (ps_if (pt_cmpR op_eq (pv 3) pe_int (nomark _)) (pss_one (ps_set (i := 5) sc_law_fraction.nd rfl (by first | exact Or.inl rfl | exact Or.inr rfl) pe_int)) pss_nil)
    (pss_cons (ps_if (pt_cmpR op_eq (pv 3) pe_int (nomark _)) (pss_cons (ps_set (i := 5) sc_law_fraction.nd rfl (by first | exact Or.inl rfl | exact Or.inr rfl) (pe_c (c_law_mod (K := K) L) hr (by decide) (L2N.takes_of rfl rfl rfl rfl) (pa_cons (pe_op o_cat (pe_c (c_law_cell (K := K) L) hr (by decide) (L2N.takes_of rfl rfl rfl rfl) (pa_cons (pv 0) (pa_cons pe_int pa_nil))) pe_int) (pa_cons (pe_op o_pow pe_int pe_int) pa_nil))))
    (pss_one (ps_ret (pe_tup (pa_cons (pv 5) (pa_cons (pe_op o_cat pe_int (pe_c (c_law_mod (K := K) L) hr (by decide) (L2N.takes_of rfl rfl rfl rfl) (pa_cons (pe_op o_cat (pe_c (c_law_cell (K := K) L) hr (by decide) (L2N.takes_of rfl rfl rfl rfl) (pa_cons (pv 0) (pa_cons pe_int pa_nil))) pe_int) (pa_cons (pe_op o_pow pe_int pe_int) pa_nil)))) pa_nil)))))) pss_nil)
    (pss_cons (ps_if (pt_cmpR o_gt (pv 2) pe_int (nomark _)) (pss_one (ps_ret (pe_tup (pa_cons (pv 5) (pa_cons (pv 6) pa_nil))))) pss_nil)
    (pss_cons (ps_set (i := 7) sc_law_fraction.nd rfl (by first | exact Or.inl rfl | exact Or.inr rfl) (pe_c (c_law_power (K := K) L) hr (by decide) (L2N.takes_of rfl rfl rfl rfl) (pa_cons (pv 5) (pa_cons (pv 2) pa_nil))))
    (pss_cons (ps_if (pt_cmpR op_eq (pv 3) pe_int (nomark _)) (pss_one (ps_set (i := 7) sc_law_fraction.nd rfl (by first | exact Or.inl rfl | exact Or.inr rfl) (pe_op o_cat (pv 7) pe_int))) pss_nil)
    (pss_cons (ps_if (PW.pt (pw_and (pt_cmpR op_eq (pv 3) pe_int (nomark _)) (pw_and1 (pt_cmpR o_gt (pv 7) pe_int (nomark _))))) (pss_one (ps_set (i := 7) sc_law_fraction.nd rfl (by first | exact Or.inl rfl | exact Or.inr rfl) (pe_op o_sub (pv 7) pe_int))) pss_nil)
    (pss_one (ps_ret (pe_tup (pa_cons (pv 7) (pa_cons (pe_c (c_law_power (K := K) L) hr (by decide) (L2N.takes_of rfl rfl rfl rfl) (pa_cons (pv 6) (pa_cons (pv 2) pa_nil))) pa_nil))))))))))))))), ?_⟩
  rw [show L2.start (["script", "size", "k", "kind", "most", "p", "q", "top"] : List Str) [a, b, c] = [some a, some b, some c, none, none, none, none, none] from rfl]
  obtain ⟨p, s, k, rfl, rfl, rfl, hp, s0, s7, hk, q⟩ := h
  try dsimp only [List.set]
  walk_at "zz"
  rename_i c1 lm H1 hlm s1 elm
  obtain ⟨mo, m1, m2, m7, em⟩ := at8m s0 s7
  have hp1 := hp.mono s1
  refine z_ixL (SqL.of elm) em ?_
  try dsimp only [List.set]
  walk_at "zz"
  rename_i c2 c3
  have q0 : 0 < 1 + (c3 + 1) % mo := by
    have := Int.emod_nonneg (c3 + 1) (show mo ≠ 0 by omega)
    omega
  have q1 : 1 + (c3 + 1) % mo ≤ mo := by
    have := Int.emod_lt_of_pos (c3 + 1) (show 0 < mo by omega)
    omega
  have p0 : 0 ≤ (c2 + 3) % (mo + 1) := Int.emod_nonneg _ (by omega)
  have p1 : (c2 + 3) % (mo + 1) ≤ mo := by
    have := Int.emod_lt_of_pos (c2 + 3) (show 0 < mo + 1 by omega)
    omega
  generalize 1 + (c3 + 1) % mo = qq at *
  generalize (c2 + 3) % (mo + 1) = pp at *
  refine z_d2 (fun c9 => ?_) (fun c9 => ?_)
  · try dsimp only [List.set]
    walk_at "zz"
    refine z_d2 (fun c4 => ?_) (fun c4 => ?_)
    · try dsimp only [List.set]
      walk_at "zz"
      exact q _ _ _ 400 _ (by walk_at "sm") (by assumption) (by omega) (by omega) (b60 (by omega) (by omega)) (b60 (by omega) (by omega)) (.inl rfl)
    try dsimp only [List.set]
    walk_at "zz"
    refine z_d2 (fun c5 => ?_) (fun c5 => ?_)
    · try dsimp only [List.set]
      walk_at "zz"
      exact q _ _ _ 400 _ (by walk_at "sm") (by assumption) (by omega) (by omega) (b60 (by omega) (by omega)) (b60 (by omega) (by omega)) (.inl rfl)
    obtain ⟨bb, BB, hb1, hb2, hs, hB⟩ := sizes (Int.le_refl 0) (show (0 : Int) ≤ mo by omega) q0 q1 m2 m7 hk (by omega)
    have g1 := bpow hb1 k
    have g2 := bpow hb2 k
    have gp := S02.pow_nn (Int.le_refl 0) k
    have gq : 0 < qq ^ k := Int.pow_pos q0
    have o1 : Bits (bb * k + 1) (1 : Int) := Bits.up (Bits.small (n := 1) (by decide) (by decide)) (by omega)
    try dsimp only [List.set]
    walk_at "zz"
    refine u_lp hb1 (by omega) ?_
    try dsimp only [List.set]
    walk_at "zz"
    refine z_d2 (fun c6 => ?_) (fun c6 => ?_)
    · try dsimp only [List.set]
      walk_at "zz"
      refine z_dF (by omega) ?_
      try dsimp only [List.set]
      walk_at "zz"
      refine u_lp hb2 (by omega) ?_
      try dsimp only [List.set]
      walk_at "zz"
      exact q _ _ _ BB _ (by walk_at "sm") (by assumption) (by omega) gq (Bits.up (Bits.add g1 o1) (by omega)) (g2.up (by omega)) hB
    try dsimp only [List.set]
    walk_at "zz"
    refine z_d2 (fun c7 => ?_) (fun c7 => ?_)
    · try dsimp only [List.set]
      walk_at "zz"
      refine z_d2 (fun c8 => ?_) (fun c8 => ?_)
      · try dsimp only [List.set]
        walk_at "zz"
        refine u_lp hb2 (by omega) ?_
        try dsimp only [List.set]
        walk_at "zz"
        exact q _ _ _ BB _ (by walk_at "sm") (by assumption) (by omega) gq (Bits.up (Bits.sub g1 o1) (by omega)) (g2.up (by omega)) hB
      · try dsimp only [List.set]
        walk_at "zz"
        refine u_lp hb2 (by omega) ?_
        try dsimp only [List.set]
        walk_at "zz"
        exact q _ _ _ BB _ (by walk_at "sm") (by assumption) gp gq (g1.up (by omega)) (g2.up (by omega)) hB
    · try dsimp only [List.set]
      walk_at "zz"
      refine u_lp hb2 (by omega) ?_
      try dsimp only [List.set]
      walk_at "zz"
      exact q _ _ _ BB _ (by walk_at "sm") (by assumption) gp gq (g1.up (by omega)) (g2.up (by omega)) hB
  · try dsimp only [List.set]
    walk_at "zz"
    refine z_d2 (fun c4 => ?_) (fun c4 => ?_)
    · try dsimp only [List.set]
      walk_at "zz"
      exact q _ _ _ 400 _ (by walk_at "sm") (by assumption) (by omega) (by omega) (b60 (by omega) (by omega)) (b60 (by omega) (by omega)) (.inl rfl)
    try dsimp only [List.set]
    walk_at "zz"
    refine z_d2 (fun c5 => ?_) (fun c5 => ?_)
    · try dsimp only [List.set]
      walk_at "zz"
      exact q _ _ _ 400 _ (by walk_at "sm") (by assumption) (by omega) (by omega) (b60 (by omega) (by omega)) (b60 (by omega) (by omega)) (.inl rfl)
    obtain ⟨bb, BB, hb1, hb2, hs, hB⟩ := sizes p0 p1 q0 q1 m2 m7 hk (by omega)
    have g1 := bpow hb1 k
    have g2 := bpow hb2 k
    have gp := S02.pow_nn p0 k
    have gq : 0 < qq ^ k := Int.pow_pos q0
    have o1 : Bits (bb * k + 1) (1 : Int) := Bits.up (Bits.small (n := 1) (by decide) (by decide)) (by omega)
    try dsimp only [List.set]
    walk_at "zz"
    refine u_lp hb1 (by omega) ?_
    try dsimp only [List.set]
    walk_at "zz"
    refine z_d2 (fun c6 => ?_) (fun c6 => ?_)
    · try dsimp only [List.set]
      walk_at "zz"
      refine z_dF (by omega) ?_
      try dsimp only [List.set]
      walk_at "zz"
      refine u_lp hb2 (by omega) ?_
      try dsimp only [List.set]
      walk_at "zz"
      exact q _ _ _ BB _ (by walk_at "sm") (by assumption) (by omega) gq (Bits.up (Bits.add g1 o1) (by omega)) (g2.up (by omega)) hB
    try dsimp only [List.set]
    walk_at "zz"
    refine z_d2 (fun c7 => ?_) (fun c7 => ?_)
    · try dsimp only [List.set]
      walk_at "zz"
      refine z_d2 (fun c8 => ?_) (fun c8 => ?_)
      · try dsimp only [List.set]
        walk_at "zz"
        refine u_lp hb2 (by omega) ?_
        try dsimp only [List.set]
        walk_at "zz"
        exact q _ _ _ BB _ (by walk_at "sm") (by assumption) (by omega) gq (Bits.up (Bits.sub g1 o1) (by omega)) (g2.up (by omega)) hB
      · try dsimp only [List.set]
        walk_at "zz"
        refine u_lp hb2 (by omega) ?_
        try dsimp only [List.set]
        walk_at "zz"
        exact q _ _ _ BB _ (by walk_at "sm") (by assumption) gp gq (g1.up (by omega)) (g2.up (by omega)) hB
    · try dsimp only [List.set]
      walk_at "zz"
      refine u_lp hb2 (by omega) ?_
      try dsimp only [List.set]
      walk_at "zz"
      exact q _ _ _ BB _ (by walk_at "sm") (by assumption) gp gq (g1.up (by omega)) (g2.up (by omega)) hB
theorem c_law_fraction (L : Lw K mg) : Cal P w K mg base 3 "_law_fraction" (sp3 fs_fr) [] := by
  obtain ⟨fd, F⟩ := L.d_law_fraction
  exact ⟨⟨_, fd, ["script", "size", "k"], [], ok_law_fraction L F, L.g_law_fraction, F.kp, F.bindsN (fun _ _ _ _ _ _ us hl => match us, hl with | [_, _, _], _ => rfl), .nil⟩⟩
end
end T
set_option maxHeartbeats 4000000
namespace T
open PySem PySem.Spec PyProof.Rows L2 Z
/-- rows of three whole numbers -/
def itQ (rs : List PQE) : Hp → V → Nat → Prop := fun H x k => ∃ (c : Addr) (r : PQE), rs[k]? = some r ∧ x = .ref c ∧ H c = some (.tup [.int r.1, .int r.2.1, .int r.2.2])
theorem itQ_mono {rs : List PQE} : Mono (itQ rs) := fun H H' x k s h => by
  obtain ⟨c, r, e1, e2, e3⟩ := h
  exact ⟨c, r, e1, e2, s _ _ e3 (fun _ z => nomatch z)⟩
def RowsAt (H : Hp) (l : Addr) (rs : List PQE) : Prop := ∃ xs : List V, H l = some (.lst xs) ∧ xs.length = rs.length ∧ ∀ (k : Nat) (x : V), xs[k]? = some x → itQ rs H x k
theorem RowsAt.mono {H H' : Hp} {l : Addr} {rs : List PQE} (s : Same H H') (h : RowsAt H l rs) : RowsAt H' l rs := by
  obtain ⟨xs, h1, h2, h3⟩ := h
  exact ⟨xs, s _ _ h1, h2, fun k x e => itQ_mono _ _ _ _ (SameN.of s) (h3 k x e)⟩
def itH (K : Frag) (rs : List PQE) : Hp → V → Nat → Prop := fun H x k => ∃ (c p : Addr) (r : PQE), rs[k]? = some r ∧ x = .ref c ∧ H c = some (.tup [.ref p, .int r.2.2]) ∧ Fr K H p r.1 r.2.1 ∧ 0 < r.2.1
theorem itH_mono {K : Frag} {rs : List PQE} : Mono (itH K rs) := fun H H' x k s h => by
  obtain ⟨c, p, r, e1, e2, e3, e4, e5⟩ := h
  exact ⟨c, p, r, e1, e2, s _ _ e3 (fun _ z => nomatch z), e4.monoN s, e5⟩
/-- a list handed over -/
def FacL (K : Frag) (H : Hp) (a : Addr) (rs : List PQE) : Prop := ∃ xs : List V, H a = some (.lst xs) ∧ xs.length = rs.length ∧ ∀ (k : Nat) (x : V), xs[k]? = some x → itH K rs H x k
theorem FacL.mono {K : Frag} {H H' : Hp} {a : Addr} {rs : List PQE} (s : Same H H') (h : FacL K H a rs) : FacL K H' a rs := by
  obtain ⟨xs, h1, h2, h3⟩ := h
  exact ⟨xs, s _ _ h1, h2, fun k x e => itH_mono _ _ _ _ (SameN.of s) (h3 k x e)⟩
theorem FacL.facs {K : Frag} {H : Hp} {a : Addr} {rs : List PQE} (h : FacL K H a rs) : Facs K H a rs := by
  obtain ⟨xs, h1, h2, h3⟩ := h
  exact ⟨xs, .inl h1, h2, h3⟩
/-- a row that may be handed over -/
def FitR (r : PQE) : Prop := 0 < r.2.1 ∧ Bits 20 r.1 ∧ Bits 20 r.2.1
def fs_hd (K : Frag) : F1 := fun x H Q _ => ∃ (l : Addr) (rs : List PQE), x = .ref l ∧ RowsAt H l rs ∧ rs.length ≤ 1000 ∧ (∀ r, r ∈ rs → FitR r) ∧ ∀ D H', H D = none → Same H H' → FacL K H' D rs → Q (.ref D) H'
def fs_st (K : Frag) : F2 := fun x y H Q _ => ∃ (a l : Addr) (rs : List PQE), x = .ref a ∧ y = .ref l ∧ FacL K H a rs ∧ RowsAt H l rs ∧ rs.length ≤ 1000 ∧ (∀ r, r ∈ rs → FitR r) ∧ Q (.bl true) H
def fs_cmp : F2 := fun x y H Q _ => ∃ (l m : Addr) (rs ss : List PQE), x = .ref l ∧ y = .ref m ∧ RowsAt H l rs ∧ RowsAt H m ss ∧ rs.length ≤ 20 ∧ ss.length ≤ 20 ∧ (∀ r, r ∈ rs ++ ss → FitR r ∧ okRow r) ∧ esum rs ≤ 5000 ∧ esum ss ≤ 5000 ∧
  ∀ H', Same H H' → Q (.int (cmpI (pw (·.1) rs * pw (·.2.1) ss) (pw (·.1) ss * pw (·.2.1) rs))) H'
theorem z_isTup {K : Frag} {a : Addr} {xs : List V} {H : Hp} {Q : VK} (h : H a = some (.tup xs)) (q : Q (.bl true) H) : rIsi K [.ref a, .ty "tuple"] H Q := z_isi (.ty "tuple") (.base (.tup h)) (kit_ty (by decide +kernel)) q
theorem atN {xs : List V} {j : Nat} {x : V} (h : xs[j]? = some x) : atI xs (j : Int) = some x := atI_nat h
theorem z_ixN {K : Frag} {H : Hp} {Q : VK} {p : Addr} {xs : List V} {j : Nat} {x : V} (h : H p = some (.lst xs)) (e : xs[j]? = some x) (q : Q x H) : rIx K (.ref p) (.int (j : Int)) H Q := z_ixL (SqL.of h) (atN e) q
theorem cmp_of (a b : Int) : (if decide (b < a) = true then (1 : Int) else 0) - (if decide (a < b) = true then (1 : Int) else 0) = cmpI a b := by
  unfold cmpI
  by_cases c : a < b
  · rw [if_pos c, if_neg (by simp; omega), if_pos (by simpa using c)]
    rfl
  · rw [if_neg c, if_neg (c := decide (a < b) = true) (by simpa using c)]
    by_cases d : b < a
    · rw [if_pos d, if_pos (by simpa using d)]
      rfl
    · rw [if_neg d, if_neg (by simpa using d)]
      rfl
theorem pw_bits {f : PQE → Int} {l : List PQE} (h : ∀ r, r ∈ l → Bits 20 (f r) ∧ okRow r) : Bits (20 * (esum l).toNat + l.length + 1) (pw f l) := by
  induction l with
  | nil => exact show Bits 1 (1 : Int) from Bits.small (n := 1) (by decide) (by decide)
  | cons x l ih =>
    have hx := h x List.mem_cons_self
    have hl := fun r hr => h r (List.mem_cons_of_mem _ hr)
    have g := bpow hx.1 x.2.2.toNat
    have e0 := esum_nn (l := l) fun r hr => (hl r hr).2
    have := hx.2.2.1
    have m := Bits.mul g (ih hl)
    rw [pw]
    refine m.up ?_
    rw [esum, List.length_cons]
    omega
theorem pick2 {rs ss t : List PQE} {k : Nat} (h : [rs, ss][k]? = some t) : t = rs ∨ t = ss := by
  match k with
  | 0 => exact .inl (Option.some.inj h).symm
  | 1 => exact .inr (Option.some.inj h).symm
  | _ + 2 => cases h
theorem fac_nth {xs : List V} {rs : List PQE} (h : xs.length = rs.length) {k : Nat} (hk : k < rs.length) : ∃ x, xs[k]? = some x := ⟨xs[k], List.getElem?_eq_getElem (by omega)⟩
local macro_rules | `(tactic| walk_at "up") => `(tactic| first
  | assumption
  | (refine' IsR.mono (by assumption) ?zup; case zup => walk_at "up")
  | (refine' IsE.mono (by assumption) ?zup; case zup => walk_at "up")
  | (refine' Same.at (by assumption) ?zup; case zup => walk_at "up")
  | (refine' SqL.of ?zup; case zup => walk_at "up")
  | (refine' L2.Same.seq (by assumption) ?zup; case zup => walk_at "up"))
local macro_rules | `(tactic| walk_at "z") => `(tactic| first
  | ((with_reducible refine' z_var ?zvh ?_); (case zvh => exact rfl))
  | with_reducible refine z_c ?_
  | with_reducible refine z_cons ?_
  | with_reducible refine z_nil ?_
  | with_reducible refine z_op ?_
  | with_reducible refine z_nx ?_
  | with_reducible refine z_seq ?_
  | with_reducible refine z_asg ?_
  | with_reducible refine z_asgG ?_
  | with_reducible refine z_call ?_
  | with_reducible refine z_sq0 ?_
  | with_reducible refine z_sq1 ?_
  | with_reducible refine z_ifS ?_
  | with_reducible refine z_test ?_
  | with_reducible refine z_tb ?_
  | with_reducible refine z_bl ?_
  | with_reducible refine z_blI ?_
  | with_reducible refine z_ret ?_
  | with_reducible refine z_rt ?_
  | with_reducible refine z_T ?_
  | with_reducible refine z_F ?_
  | with_reducible refine z_add ?_
  | with_reducible refine z_sub ?_
  | with_reducible refine z_neg ?_
  | with_reducible refine z_un ?_
  | with_reducible refine z_eqI ?_
  | with_reducible refine z_neI ?_
  | with_reducible refine z_lt ?_
  | with_reducible refine z_le ?_
  | with_reducible refine z_gt ?_
  | with_reducible refine z_ge ?_
  | with_reducible refine z_not ?_
  | with_reducible refine z_and ?_
  | with_reducible refine z_or ?_
  | with_reducible refine z_andV ?_
  | with_reducible refine z_orV ?_
  | with_reducible refine z_notV ?_
  | with_reducible refine z_if ?_
  | with_reducible refine z_cb ?_
  | with_reducible refine z_int1 ?_
  | with_reducible refine z_intb ?_
  | with_reducible refine z_abs ?_
  | with_reducible refine z_gcd ?_
  | with_reducible refine z_isi_ii ?_
  | with_reducible refine z_isi_ib ?_
  | with_reducible refine z_next ?_
  | with_reducible refine z_drop ?_
  | with_reducible refine z_par ?_
  | with_reducible refine z_par2 ?_
  | with_reducible refine z_tupN ?_
  | with_reducible refine z_lstN ?_
  | ((with_reducible refine' z_nt ?zl1 ?_); (case zl1 => exact Nat.le_of_ble_eq_true rfl); intro p H' hp hs he)
  | ((with_reducible refine' z_gtup ?zl1 ?zl2 ?_); (case zl1 => walk_at "up"); (case zl2 => exact rfl))
  | with_reducible refine z_bk ?_
  | with_reducible refine z_ct ?_
  | with_reducible refine z_break ?_
  | with_reducible refine z_cont ?_
  | with_reducible refine z_retN ?_
  | with_reducible refine z_nn ?_
  | with_reducible refine z_mk ?_
  | with_reducible refine z_gn ?_
  | with_reducible refine z_gcons ?_
  | with_reducible refine z_gnil ?_
  | with_reducible refine z_mt ?_
  | with_reducible refine z_mko ?_
  | with_reducible refine z_for2 ?_
  | with_reducible refine z_ownI ?_
  | ((with_reducible refine' z_lenL ?zl1 ?_); (case zl1 => walk_at "up"))
  | ((with_reducible refine' z_ixT ?zl1 ?zl2 ?_); (case zl1 => walk_at "up"); (case zl2 => exact rfl))
  | ((with_reducible refine' z_mulL ?zl1 ?zl2 ?_); (case zl1 => omega); (case zl2 => omega))
  | ((with_reducible refine' z_mulR ?zl1 ?zl2 ?_); (case zl1 => omega); (case zl2 => omega))
  | ((with_reducible refine' z_divS ?zl1 ?zl2 ?_); (case zl1 => omega); (case zl2 => omega))
  | ((with_reducible refine' z_mulW ?zl1 ?zl2 ?zl3 ?zl4 ?_); (case zl1 => omega); (case zl2 => omega); (case zl3 => omega); (case zl4 => omega))
  | ((with_reducible refine' z_divW ?zl1 ?zl2 ?_); (case zl1 => omega); (case zl2 => omega)))
local macro_rules | `(tactic| walk_at "zz") => `(tactic| repeat (walk_at "z"))
local macro_rules | `(tactic| walk_at "z") => `(tactic| with_reducible refine z_lstN ?_)
local macro_rules | `(tactic| walk_at "z") => `(tactic| with_reducible refine z_p6 ?_)
local macro_rules | `(tactic| walk_at "z") => `(tactic| with_reducible refine z_p12 ?_)
local macro_rules | `(tactic| walk_at "z") => `(tactic| with_reducible refine z_p13 ?_)
local macro_rules | `(tactic| walk_at "z") => `(tactic| with_reducible refine z_calln ?_)
local macro_rules | `(tactic| walk_at "z") => `(tactic| with_reducible refine z_xfS ?_)
local macro_rules | `(tactic| walk_at "z") => `(tactic| with_reducible refine z_lcS ?_)
local macro_rules | `(tactic| walk_at "z") => `(tactic| with_reducible refine z_lcRS ?_)
local macro_rules | `(tactic| walk_at "z") => `(tactic| with_reducible refine z_lcZS ?_)
local macro_rules | `(tactic| walk_at "z") => `(tactic| with_reducible refine z_foS ?_)
local macro_rules | `(tactic| walk_at "z") => `(tactic| with_reducible refine z_for1 ?_)
local macro_rules | `(tactic| walk_at "z") => `(tactic| with_reducible refine z_tsl ?_)
local macro_rules | `(tactic| walk_at "z") => `(tactic| with_reducible refine z_np ?_)
local macro_rules | `(tactic| walk_at "z") => `(tactic| with_reducible refine z_pt ?_)
local macro_rules | `(tactic| walk_at "z") => `(tactic| with_reducible refine z_pti ?_)
local macro_rules | `(tactic| walk_at "z") => `(tactic| with_reducible refine z_catI ?_)
local macro_rules | `(tactic| walk_at "z") => `(tactic| with_reducible refine z_isNI ?_)
local macro_rules | `(tactic| walk_at "z") => `(tactic| with_reducible refine z_isNN ?_)
local macro_rules | `(tactic| walk_at "z") => `(tactic| with_reducible refine z_notNI ?_)
local macro_rules | `(tactic| walk_at "z") => `(tactic| with_reducible refine z_notNN ?_)
local macro_rules | `(tactic| walk_at "z") => `(tactic| with_reducible refine z_gsub ?_)
local macro_rules | `(tactic| walk_at "z") => `(tactic| with_reducible refine z_isNb ?_)
local macro_rules | `(tactic| walk_at "z") => `(tactic| with_reducible refine z_notNb ?_)
local macro_rules | `(tactic| walk_at "z") => `(tactic| ((with_reducible refine' z_nlR ?zl1 ?_); (case zl1 => exact Nat.le_of_ble_eq_true rfl); intro p H' hp hs he))
local macro_rules | `(tactic| walk_at "z") => `(tactic| ((with_reducible refine' z_repR ?zl1 ?zl2 ?_); (case zl1 => omega); (case zl2 => omega)))
local macro_rules | `(tactic| walk_at "z") => `(tactic| ((with_reducible refine' z_repL ?zl1 ?zl2 ?_); (case zl1 => omega); (case zl2 => omega)))
local macro_rules | `(tactic| walk_at "z") => `(tactic| ((with_reducible refine' z_lenLst ?zl1 ?_); (case zl1 => walk_at "up")))
local macro_rules | `(tactic| walk_at "z") => `(tactic| ((with_reducible refine' z_cat ?zl1 ?zl2 ?zl3 ?_); (case zl1 => walk_at "up"); (case zl2 => walk_at "up"); (case zl3 => (simp only [List.length_map, List.length_cons, List.length_nil, List.length_append, List.length_replicate]; omega)); intro p H' hp hs he))
local macro_rules | `(tactic| walk_at "z") => `(tactic| with_reducible refine z_sfl ?_)
local macro_rules | `(tactic| walk_at "z") => `(tactic| with_reducible refine z_lcES ?_)
local macro_rules | `(tactic| walk_at "z") => `(tactic| with_reducible refine z_lcMS ?_)
local macro_rules | `(tactic| walk_at "z") => `(tactic| with_reducible refine z_foES ?_)
local macro_rules | `(tactic| walk_at "z") => `(tactic| with_reducible refine z_fo3S ?_)
local macro_rules | `(tactic| walk_at "z") => `(tactic| with_reducible refine z_sta ?_)
local macro_rules | `(tactic| walk_at "z") => `(tactic| with_reducible refine z_sta1 ?_)
local macro_rules | `(tactic| walk_at "z") => `(tactic| with_reducible refine z_lcTS ?_)
local macro_rules | `(tactic| walk_at "z") => `(tactic| with_reducible refine z_foTS ?_)
local macro_rules | `(tactic| walk_at "z") => `(tactic| with_reducible refine z_revTS ?_)
local macro_rules | `(tactic| walk_at "z") => `(tactic| with_reducible refine z_max2 ?_)
local macro_rules | `(tactic| walk_at "z") => `(tactic| ((with_reducible refine' z_fldt ?zc1 ?zc2 ?zl1 ?zl2 ?_); (case zc1 => exact Lw.cl_Ratio (by assumption)); (case zc2 => exact Lw.na_Ratio_top (by assumption)); (case zl1 => exact rfl); (case zl2 => walk_at "up")))
local macro_rules | `(tactic| walk_at "z") => `(tactic| ((with_reducible refine' z_fldb ?zc1 ?zc2 ?zl1 ?zl2 ?_); (case zc1 => exact Lw.cl_Ratio (by assumption)); (case zc2 => exact Lw.na_Ratio_bottom (by assumption)); (case zl1 => exact rfl); (case zl2 => walk_at "up")))
local macro_rules | `(tactic| walk_at "z") => `(tactic| ((with_reducible refine' u_mtF ?zl1 ?_); (case zl1 => walk_at "up")))
local macro_rules | `(tactic| walk_at "z") => `(tactic| ((with_reducible refine' z_ixLst ?zl1 ?zl2 ?_); (case zl1 => walk_at "up"); (case zl2 => exact rfl)))
local macro_rules | `(tactic| walk_at "z") => `(tactic| with_reducible refine z_for3 ?_)
local macro_rules | `(tactic| walk_at "z") => `(tactic| with_reducible refine z_tbits ?_)
local macro_rules | `(tactic| walk_at "z") => `(tactic| with_reducible refine z_tbi ?_)
local macro_rules | `(tactic| walk_at "z") => `(tactic| ((with_reducible refine' z_div2S ?zl1 ?zl2 ?_); (case zl1 => omega); (case zl2 => omega)))
local macro_rules | `(tactic| walk_at "z") => `(tactic| with_reducible refine u_who ?_)
local macro_rules | `(tactic| walk_at "z") => `(tactic| with_reducible refine z_asg2 ?_)
local macro_rules | `(tactic| walk_at "z") => `(tactic| ((with_reducible refine' u_cell ?zl1 ?zl2 ?_); (case zl1 => walk_at "up"); (case zl2 => omega); intro c))
local macro_rules | `(tactic| walk_at "z") => `(tactic| ((with_reducible refine' u_mod ?zl1 ?_); (case zl1 => omega)))
theorem same02i {H H1 H2 : Hp} (h : Same H1 H2) (e : Same H H1) : Same H H2 := e.trans h
local macro_rules | `(tactic| walk_at "sm") => `(tactic| first
  | assumption
  | exact fun _ _ h => h
  | (refine' same02i (by assumption) ?zsm; case zsm => walk_at "sm"))
local macro_rules | `(tactic| walk_at "up") => `(tactic| first
  | assumption
  | (with_reducible refine' IsR.mono (by assumption) ?zup; case zup => walk_at "up")
  | (with_reducible refine' Fr.mono (by assumption) ?zup; case zup => walk_at "up")
  | (with_reducible refine' Same.at (by assumption) ?zup; case zup => walk_at "up")
  | (with_reducible refine' Facs.mono (by assumption) ?zup; case zup => walk_at "up")
  | (with_reducible refine' IsPool.mono (by assumption) ?zup; case zup => walk_at "up")
  | (with_reducible refine' RowsAt.mono (by assumption) ?zup; case zup => walk_at "up")
  | (with_reducible refine' FacL.mono (by assumption) ?zup; case zup => walk_at "up")
  | fail)
section
variable {P : Program} {w : World} {K : Frag} {mg : Str → Option Value} {base : Heap}
theorem ok_law_handed (L : Lw K mg) {fd : FuncData} (F : FunD K "_law_handed" "_law_handed" (defArgs s_law_handed) (defBody s_law_handed) (defScope s_law_handed) (df_law_handed.dvs K) (df_law_handed.kws K) (He.fAd K ("_law_handed", none)) fd) : FnOk P w K mg base (L2N.CX P w) 3 (He.fAd K ("_law_handed", none)) fd (["rows"] : List Str) (sp1 (fs_hd K)) := by
  refine FunD.ok F sc_law_handed len1 (fun cdv A outer s H vs Q E hr h => ?_)
  obtain ⟨a, rfl, h⟩ := h
  refine ⟨_, (pss_one (ps_ret (pe_lc (own := [("row", 1)]) (g := (gName 1)) (tt := tYes) rfl sc_law_handed.nd (pi_listK (K := K) rfl (pv 0)) (blkOk_by (N := ["rows", "row"]) (sc := defScope s_law_handed) (by decide +kernel)) (fun _ _ _ _ _ => pg_name (i := 1) sc_law_handed.nd rfl (Or.inl rfl)) (fun _ _ _ _ _ => pts_nil) (fun _ _ _ _ _ => (pe_tup (pa_cons (pe_mk (c_RatioD_initD (K := K) L) hr (by decide) takesF (pa_cons (pe_ix (ix_seqK (K := K) rfl) (pv 1) pe_int (fun _ _ => rfl)) (pa_cons (pe_ix (ix_seqK (K := K) rfl) (pv 1) pe_int (fun _ _ => rfl)) pa_nil))) (pa_cons (pe_ix (ix_seqK (K := K) rfl) (pv 1) pe_int (fun _ _ => rfl)) pa_nil))))))), ?_⟩
  rw [show L2.start (["rows", "row"] : List Str) [a] = [some a, none] from rfl]
  obtain ⟨l, rs, rfl, ⟨xs, h1, h2, h3⟩, hn, fit, k⟩ := h
  try dsimp only [List.set]
  walk_at "zz"
  refine z_lcVP (itH K rs) itH_mono h1 (by omega) (fun j x H2 N2 hx s2 cc => ⟨rfl, ?_⟩) (fun D HD hD sD hlD => ?_)
  · obtain ⟨c, r, e1, rfl, e3⟩ := h3 j x hx
    obtain ⟨f1, f2, f3⟩ := fit r (List.mem_of_getElem? e1)
    have e4 := s2 _ _ e3
    try dsimp only [List.set]
    walk_at "zz"
    refine u_mkF f1 (f3.up (by decide)) rfl (fun q H4 s4 hq => ?_)
    have e5 := s4 _ _ e4
    try dsimp only [List.set]
    walk_at "zz"
    exact cc _ _ (by walk_at "sm") ⟨_, q, r, e1, rfl, by assumption, by walk_at "up", f1⟩
  obtain ⟨ys, g1, g2, g3⟩ := hlD
  exact k D HD hD sD ⟨ys, g1, by omega, g3⟩
theorem c_law_handed (L : Lw K mg) : Cal P w K mg base 3 "_law_handed" (sp1 (fs_hd K)) [] := by
  obtain ⟨fd, F⟩ := L.d_law_handed
  exact ⟨⟨_, fd, ["rows"], [], ok_law_handed L F, L.g_law_handed, F.kp, F.bindsN (fun _ _ _ _ _ _ us hl => match us, hl with | [_], _ => rfl), .nil⟩⟩
theorem ok_law_stays (L : Lw K mg) {fd : FuncData} (F : FunD K "_law_stays" "_law_stays" (defArgs s_law_stays) (defBody s_law_stays) (defScope s_law_stays) (df_law_stays.dvs K) (df_law_stays.kws K) (He.fAd K ("_law_stays", none)) fd) : FnOk P w K mg base (L2N.CX P w) 4 (He.fAd K ("_law_stays", none)) fd (["handed", "rows"] : List Str) (sp2 (fs_st K)) := by
  refine FunD.ok F sc_law_stays len2 (fun cdv A outer s H vs Q E hr h => ?_)
  obtain ⟨a, b, rfl, h⟩ := h
  refine ⟨_, (pss_cons (ps_if (pt_cmpR op_ne (pe_callB (callK rLen1 (K := K) rfl o_len) (by rfl) L.f_len (by decide +kernel) (pa_cons (pv 0) pa_nil)) (pe_callB (callK rLen1 (K := K) rfl o_len) (by rfl) L.f_len (by decide +kernel) (pa_cons (pv 1) pa_nil)) (nomark _)) (pss_one (ps_ret pe_bl)) pss_nil)
    (pss_cons (ps_for (passes_of rfl) rfl (pi_range1 (by rfl) L.f_range (pa_cons (pe_callB (callK rLen1 (K := K) rfl o_len) (by rfl) L.f_len (by decide +kernel) (pa_cons (pv 1) pa_nil)) pa_nil)) (pg_name (i := 2) sc_law_stays.nd rfl (by first | exact Or.inl rfl | exact Or.inr rfl)) (pss_cons (ps_set (i := 3) sc_law_stays.nd rfl (by first | exact Or.inl rfl | exact Or.inr rfl) (pe_ix (ix_seqK (K := K) rfl) (pv 0) (pv 2) (fun _ _ => rfl)))
    (pss_cons (ps_set (i := 4) sc_law_stays.nd rfl (by first | exact Or.inl rfl | exact Or.inr rfl) (pe_ix (ix_seqK (K := K) rfl) (pv 1) (pv 2) (fun _ _ => rfl)))
    (pss_cons (ps_if (PW.pt (pw_or (pt_not (pt_val (pe_callB (callK rIsi (K := K) rfl call_isi) (by rfl) L.f_isinstance (by decide +kernel) (pa_cons (pv 3) (pa_cons (pe_ty "tuple" (by rfl) L.f_tuple (by decide +kernel)) pa_nil))))) (pw_or1 (pt_cmpR op_ne (pe_callB (callK rLen1 (K := K) rfl o_len) (by rfl) L.f_len (by decide +kernel) (pa_cons (pv 3) pa_nil)) pe_int (nomark _))))) (pss_one (ps_ret pe_bl)) pss_nil)
    (pss_one (ps_if (PW.pt (pw_or (pt_not (pt_val (pe_c (c_law_is (K := K) L) hr (by decide) (L2N.takes_of rfl rfl rfl rfl) (pa_cons (pe_ix (ix_seqK (K := K) rfl) (pv 3) pe_int (fun _ _ => rfl)) (pa_cons (pe_ix (ix_seqK (K := K) rfl) (pv 4) pe_int (fun _ _ => rfl)) (pa_cons (pe_ix (ix_seqK (K := K) rfl) (pv 4) pe_int (fun _ _ => rfl)) pa_nil)))))) (pw_or1 (pt_not (pt_val (pe_c (c_law_whole (K := K) L) hr (by decide) (L2N.takes_of rfl rfl rfl rfl) (pa_cons (pe_ix (ix_seqK (K := K) rfl) (pv 3) pe_int (fun _ _ => rfl)) (pa_cons (pe_ix (ix_seqK (K := K) rfl) (pv 4) pe_int (fun _ _ => rfl)) pa_nil)))))))) (pss_one (ps_ret pe_bl)) pss_nil))))))
    (pss_one (ps_ret pe_bl)))), ?_⟩
  rw [show L2.start (["handed", "rows", "k", "pair", "row"] : List Str) [a, b] = [some a, some b, none, none, none] from rfl]
  obtain ⟨a, l, rs, rfl, rfl, ⟨xs, h1, h2, h3⟩, ⟨ys, g1, g2, g3⟩, hn, fit, q⟩ := h
  try dsimp only [List.set]
  walk_at "zz"
  refine z_dT (by omega) ?_
  try dsimp only [List.set]
  walk_at "zz"
  refine z_foR (by omega) (by omega) (fun j σ' H' => ∃ x2 x3 x4 : Option V, σ' = [some (.ref a), some (.ref l), x2, x3, x4] ∧ H = H') ⟨_, _, _, rfl, rfl⟩ ?_ ?_
  · rintro j σ' H' hj ⟨x2, x3, x4, rfl, rfl⟩
    have hj' : j < rs.length := by omega
    obtain ⟨x, ex⟩ := fac_nth h2 hj'
    obtain ⟨y, ey⟩ := fac_nth g2 hj'
    obtain ⟨c, p, r, e1, rfl, e3, hF, f1⟩ := h3 j x ex
    obtain ⟨d, r', e1', rfl, e3'⟩ := g3 j y ey
    rw [e1] at e1'
    obtain rfl := Option.some.inj e1'
    obtain ⟨_, f2, f3⟩ := fit r (List.mem_of_getElem? e1)
    try dsimp only [List.set]
    walk_at "zz"
    refine z_ixN h1 ex ?_
    try dsimp only [List.set]
    walk_at "zz"
    refine z_ixN g1 ey ?_
    try dsimp only [List.set]
    walk_at "zz"
    refine z_isTup e3 ?_
    try dsimp only [List.set]
    walk_at "zz"
    refine z_lenT e3 ?_
    try dsimp only [List.set]
    walk_at "zz"
    refine z_dT rfl ?_
    try dsimp only [List.set]
    walk_at "zz"
    refine u_lis hF f1 f3 (by decide) ?_
    try dsimp only [List.set]
    walk_at "zz"
    rw [decide_eq_true rfl]
    try dsimp only [List.set]
    walk_at "zz"
    exact ⟨_, _, _, rfl, rfl⟩
  rintro σ' H' ⟨x2, x3, x4, rfl, rfl⟩
  try dsimp only [List.set]
  walk_at "zz"
  exact q
theorem c_law_stays (L : Lw K mg) : Cal P w K mg base 4 "_law_stays" (sp2 (fs_st K)) [] := by
  obtain ⟨fd, F⟩ := L.d_law_stays
  exact ⟨⟨_, fd, ["handed", "rows"], [], ok_law_stays L F, L.g_law_stays, F.kp, F.bindsN (fun _ _ _ _ _ _ us hl => match us, hl with | [_, _], _ => rfl), .nil⟩⟩
theorem ok_law_compared (L : Lw K mg) {fd : FuncData} (F : FunD K "_law_compared" "_law_compared" (defArgs s_law_compared) (defBody s_law_compared) (defScope s_law_compared) (df_law_compared.dvs K) (df_law_compared.kws K) (He.fAd K ("_law_compared", none)) fd) : FnOk P w K mg base (L2N.CX P w) 3 (He.fAd K ("_law_compared", none)) fd (["first", "second"] : List Str) (sp2 fs_cmp) := by
  refine FunD.ok F sc_law_compared len2 (fun cdv A outer s H vs Q E hr h => ?_)
  obtain ⟨a, b, rfl, h⟩ := h
  refine ⟨_, (pss_cons (ps_set (i := 2) sc_law_compared.nd rfl (by first | exact Or.inl rfl | exact Or.inr rfl) (pe_lst pa_nil))
    (pss_cons (ps_for (passes_of rfl) rfl (pi_listK (K := K) rfl (pe_lst (pa_cons (pv 0) (pa_cons (pv 1) pa_nil)))) (pg_name (i := 3) sc_law_compared.nd rfl (by first | exact Or.inl rfl | exact Or.inr rfl)) (pss_cons (ps_set (i := 4) sc_law_compared.nd rfl (by first | exact Or.inl rfl | exact Or.inr rfl) pe_int)
    (pss_cons (ps_set (i := 5) sc_law_compared.nd rfl (by first | exact Or.inl rfl | exact Or.inr rfl) pe_int)
    (pss_cons (ps_for (passes_of rfl) rfl (pi_listK (K := K) rfl (pv 3)) (pg_name (i := 6) sc_law_compared.nd rfl (by first | exact Or.inl rfl | exact Or.inr rfl)) (pss_cons (ps_set (i := 4) sc_law_compared.nd rfl (by first | exact Or.inl rfl | exact Or.inr rfl) (pe_op o_rep (pv 4) (pe_c (c_law_power (K := K) L) hr (by decide) (L2N.takes_of rfl rfl rfl rfl) (pa_cons (pe_ix (ix_seqK (K := K) rfl) (pv 6) pe_int (fun _ _ => rfl)) (pa_cons (pe_ix (ix_seqK (K := K) rfl) (pv 6) pe_int (fun _ _ => rfl)) pa_nil)))))
    (pss_one (ps_set (i := 5) sc_law_compared.nd rfl (by first | exact Or.inl rfl | exact Or.inr rfl) (pe_op o_rep (pv 5) (pe_c (c_law_power (K := K) L) hr (by decide) (L2N.takes_of rfl rfl rfl rfl) (pa_cons (pe_ix (ix_seqK (K := K) rfl) (pv 6) pe_int (fun _ _ => rfl)) (pa_cons (pe_ix (ix_seqK (K := K) rfl) (pv 6) pe_int (fun _ _ => rfl)) pa_nil))))))))
    (pss_one (ps_set (i := 2) sc_law_compared.nd rfl (by first | exact Or.inl rfl | exact Or.inr rfl) (pe_op o_cat (pv 2) (pe_lst (pa_cons (pe_tup (pa_cons (pv 4) (pa_cons (pv 5) pa_nil))) pa_nil)))))))))
    (pss_cons (ps_set (i := 7) sc_law_compared.nd rfl (by first | exact Or.inl rfl | exact Or.inr rfl) (pe_op o_rep (pe_ix (ix_seqK (K := K) rfl) (pe_ix (ix_seqK (K := K) rfl) (pv 2) pe_int (fun _ _ => rfl)) pe_int (fun _ _ => rfl)) (pe_ix (ix_seqK (K := K) rfl) (pe_ix (ix_seqK (K := K) rfl) (pv 2) pe_int (fun _ _ => rfl)) pe_int (fun _ _ => rfl))))
    (pss_cons (ps_set (i := 8) sc_law_compared.nd rfl (by first | exact Or.inl rfl | exact Or.inr rfl) (pe_op o_rep (pe_ix (ix_seqK (K := K) rfl) (pe_ix (ix_seqK (K := K) rfl) (pv 2) pe_int (fun _ _ => rfl)) pe_int (fun _ _ => rfl)) (pe_ix (ix_seqK (K := K) rfl) (pe_ix (ix_seqK (K := K) rfl) (pv 2) pe_int (fun _ _ => rfl)) pe_int (fun _ _ => rfl))))
    (pss_one (ps_ret (pe_op o_sub (pe_callTy o_int1 (by rfl) L.f_int (by decide +kernel) (pa_cons (pe_cmpR o_gt (pv 7) (pv 8) (nomark _)) pa_nil)) (pe_callTy o_int1 (by rfl) L.f_int (by decide +kernel) (pa_cons (pe_cmpR o_lt (pv 7) (pv 8) (nomark _)) pa_nil))))))))), ?_⟩
  rw [show L2.start (["first", "second", "sides", "rows", "top", "bottom", "row", "left", "right"] : List Str) [a, b] = [some a, some b, none, none, none, none, none, none, none] from rfl]
  obtain ⟨l, m, rs, ss, rfl, rfl, hR, hS, n1, n2, fit, er, es, k⟩ := h
  try dsimp only [List.set]
  walk_at "zz"
  rename_i p0 H0 hp0 s0 hs0 ps Hs hps s1 hs1
  have hp0' : H0 p0 = some (.lst []) := hs0
  have pk : ∀ (k : Nat) (x : V), [V.ref l, V.ref m][k]? = some x → ∃ q t, [rs, ss][k]? = some t ∧ x = V.ref q ∧ RowsAt Hs q t := by
    intro k x e
    rcases k with _ | _ | k
    · exact ⟨l, rs, rfl, (Option.some.inj e).symm, hR.mono (s0.trans s1)⟩
    · exact ⟨m, ss, rfl, (Option.some.inj e).symm, hS.mono (s0.trans s1)⟩
    · cases e
  refine z_foV hs1 (fun k σ' H' => ∃ (x3 x4 x5 x6 : Option V) (pp : Addr) (xs : List V), σ' = [some (.ref l), some (.ref m), some (.ref pp), x3, x4, x5, x6, none, none] ∧ Same Hs H' ∧ H' pp = some (.lst xs) ∧ xs.length = k ∧ ∀ (j : Nat) (x : V), xs[j]? = some x → ∃ c t, [rs, ss][j]? = some t ∧ x = V.ref c ∧ H' c = some (.tup [.int (pw (·.1) t), .int (pw (·.2.1) t)])) ⟨_, _, _, _, p0, [], rfl, fun _ _ h => h, s1 _ _ hs0, rfl, fun j x e => by cases e⟩ (fun k σ' H' z => by obtain ⟨_, _, _, _, _, _, _, s, _⟩ := z; exact s _ _ hs1) ?_ ?_
  · rintro k x σ' H' ex ⟨x3, x4, x5, x6, pp, xs, rfl, sh, hpp, hlen, hxs⟩
    obtain ⟨q, t, et, rfl, hq⟩ := pk k x ex
    obtain ⟨ys, g1, g2, g3⟩ := hq.mono sh
    have tt := pick2 et
    have fit' : ∀ r, r ∈ t → FitR r ∧ okRow r := fun r hr => fit r (by rcases tt with rfl | rfl <;> simp [hr])
    have nt : t.length ≤ 20 := by rcases tt with rfl | rfl <;> omega
    have se : esum t ≤ 5000 := by rcases tt with rfl | rfl <;> omega
    have okT : ∀ r, r ∈ t → okRow r := fun r hr => (fit' r hr).2
    try dsimp only [List.set]
    walk_at "zz"
    refine z_foV g1 (fun i σ' H2 => ∃ (x6 : Option V), σ' = [some (.ref l), some (.ref m), some (.ref pp), some (.ref q), some (.int (pw (·.1) (t.take i))), some (.int (pw (·.2.1) (t.take i))), x6, none, none] ∧ H' = H2) ⟨_, rfl, rfl⟩ (fun i σ' H2 z => by obtain ⟨_, _, rfl⟩ := z; exact g1) ?_ ?_
    · rintro i y σ' H2 ey ⟨x6, rfl, rfl⟩
      obtain ⟨c, r, er', rfl, hc⟩ := g3 i y ey
      have hm : r ∈ t := List.mem_of_getElem? er'
      obtain ⟨⟨f1, f2, f3⟩, o1, o2, o3⟩ := fit' r hm
      obtain ⟨n, hn⟩ : ∃ n : Nat, r.2.2 = (n : Int) := ⟨r.2.2.toNat, by omega⟩
      have hn2 : r.2.2.toNat = n := by omega
      rw [hn] at hc
      have ei := esum_take okT i
      have il : i < t.length := (List.getElem?_eq_some_iff.mp er').1
      have tl : (t.take i).length = i := by rw [List.length_take]; omega
      have q1 := pw_bits (f := (·.1)) (l := t.take i) fun r hr => ⟨(fit' r (List.mem_of_mem_take hr)).1.2.1, okT r (List.mem_of_mem_take hr)⟩
      have q2 := pw_bits (f := (·.2.1)) (l := t.take i) fun r hr => ⟨(fit' r (List.mem_of_mem_take hr)).1.2.2, okT r (List.mem_of_mem_take hr)⟩
      try dsimp only [List.set]
      walk_at "zz"
      refine u_lp f2 (by omega) ?_
      try dsimp only [List.set]
      walk_at "zz"
      refine z_repU0 q1 (bpow f2 n) (by omega) ?_
      try dsimp only [List.set]
      walk_at "zz"
      refine u_lp f3 (by omega) ?_
      try dsimp only [List.set]
      walk_at "zz"
      refine z_repU0 q2 (bpow f3 n) (by omega) ?_
      try dsimp only [List.set]
      walk_at "zz"
      exact ⟨some (.ref c), by rw [take_snoc er', pw_app, pw_app, hn2], rfl⟩
    · rintro σ' H2 ⟨x6', rfl, rfl⟩
      rw [g2, List.take_length]
      try dsimp only [List.set]
      walk_at "zz"
      rename_i c Hc hc sc ec p' Hp' hp' sp ep
      have k2 : k < 2 := (List.getElem?_eq_some_iff.mp et).1
      refine z_cat (sp _ _ (sc _ _ hpp)) ep (by rw [hlen]; show k + 1 ≤ 16777216; omega) (fun z Hz hz sz ez => ?_)
      refine ⟨_, _, _, _, z, xs ++ [.ref c], rfl, ((sh.trans sc).trans sp).trans sz, ez, by rw [List.length_append, hlen]; rfl, fun j x ex9 => ?_⟩
      by_cases hj : j < k
      · rw [List.getElem?_append_left (by omega)] at ex9
        obtain ⟨c', t', e1, e2, e3⟩ := hxs j x ex9
        exact ⟨c', t', e1, e2, sz _ _ (sp _ _ (sc _ _ e3))⟩
      · have hj2 := (List.getElem?_eq_some_iff.mp ex9).1
        rw [List.length_append, hlen] at hj2
        have : j = k := by
          have : j < k + 1 := hj2
          omega
        subst this
        rw [List.getElem?_append_right (by omega), hlen, Nat.sub_self] at ex9
        exact ⟨c, t, et, (Option.some.inj ex9).symm, sz _ _ (sp _ _ ec)⟩
  rintro σ' H' ⟨x3, x4, x5, x6, pp, xs, rfl, sh, hpp, hlen, hxs⟩
  obtain ⟨u, v, rfl⟩ : ∃ u v, xs = [u, v] := by
    match xs, hlen with
    | [u, v], _ => exact ⟨u, v, rfl⟩
  obtain ⟨c, t, et, rfl, hc⟩ := hxs 0 u rfl
  obtain ⟨d, t', et', rfl, hd⟩ := hxs 1 v rfl
  obtain rfl := Option.some.inj et
  obtain rfl := Option.some.inj et'
  have er' := esum_nn (l := rs) fun r hr => (fit r (List.mem_append_left _ hr)).2
  have es' := esum_nn (l := ss) fun r hr => (fit r (List.mem_append_right _ hr)).2
  have q1 := pw_bits (f := (·.1)) (l := rs) fun r hr => ⟨(fit r (List.mem_append_left _ hr)).1.2.1, (fit r (List.mem_append_left _ hr)).2⟩
  have q2 := pw_bits (f := (·.2.1)) (l := rs) fun r hr => ⟨(fit r (List.mem_append_left _ hr)).1.2.2, (fit r (List.mem_append_left _ hr)).2⟩
  have q3 := pw_bits (f := (·.1)) (l := ss) fun r hr => ⟨(fit r (List.mem_append_right _ hr)).1.2.1, (fit r (List.mem_append_right _ hr)).2⟩
  have q4 := pw_bits (f := (·.2.1)) (l := ss) fun r hr => ⟨(fit r (List.mem_append_right _ hr)).1.2.2, (fit r (List.mem_append_right _ hr)).2⟩
  try dsimp only [List.set]
  walk_at "zz"
  refine z_ixL (SqL.of hpp) rfl ?_
  try dsimp only [List.set]
  walk_at "zz"
  refine z_ixL (SqL.of hpp) rfl ?_
  try dsimp only [List.set]
  walk_at "zz"
  refine z_repU0 q1 q4 (by omega) ?_
  try dsimp only [List.set]
  walk_at "zz"
  refine z_ixL (SqL.of hpp) rfl ?_
  try dsimp only [List.set]
  walk_at "zz"
  refine z_ixL (SqL.of hpp) rfl ?_
  try dsimp only [List.set]
  walk_at "zz"
  refine z_repU0 q3 q2 (by omega) ?_
  try dsimp only [List.set]
  walk_at "zz"
  rw [cmp_of]
  exact k H' ((s0.trans s1).trans sh)
theorem c_law_compared (L : Lw K mg) : Cal P w K mg base 3 "_law_compared" (sp2 fs_cmp) [] := by
  obtain ⟨fd, F⟩ := L.d_law_compared
  exact ⟨⟨_, fd, ["first", "second"], [], ok_law_compared L F, L.g_law_compared, F.kp, F.bindsN (fun _ _ _ _ _ _ us hl => match us, hl with | [_, _], _ => rfl), .nil⟩⟩
end
end T
set_option maxHeartbeats 4000000
namespace T
open PySem PySem.Spec PyProof.Rows L2 Z
theorem z_sumI {K : Frag} {H : Hp} {Q : VK} {a : Addr} {ns : List Int} (h : H a = some (.lst (ns.map V.int))) (q : Q (.int ns.sum) H) : rSum K [.ref a] H Q := ⟨a, ns, rfl, SqL.of h, q⟩
theorem esum_sum (l : List PQE) : (l.map (·.2.2)).sum = esum l := by
  induction l with
  | nil => rfl
  | cons x l ih => rw [List.map_cons, List.sum_cons, ih, esum]
theorem cmp_neg (a b : Int) : cmpI b a = -cmpI a b := by
  unfold cmpI
  by_cases c : a < b
  · rw [if_neg (c := b < a) (by omega), if_pos c, if_pos c]
    rfl
  · by_cases d : b < a
    · rw [if_pos d, if_neg c, if_pos d]
    · rw [if_neg d, if_neg c, if_neg c, if_neg d]
      rfl
theorem cmp_self (a : Int) : cmpI a a = 0 := by
  unfold cmpI
  rw [if_neg (by omega), if_neg (by omega)]
theorem RowsAt.nil {H : Hp} {l : Addr} (h : H l = some (.lst [])) : RowsAt H l [] := ⟨[], h, rfl, fun k x e => by cases e⟩
theorem Facs.nil {K : Frag} {H : Hp} {l : Addr} (h : H l = some (.lst [])) : Facs K H l [] := ⟨[], .inl h, rfl, fun k x e => by cases e⟩
theorem FacL.tup {K : Frag} {H H' : Hp} {a b : Addr} {rs : List PQE} (h : FacL K H a rs) (s : Same H H') (hb : ∀ xs, H a = some (.lst xs) → H' b = some (.tup xs)) : Facs K H' b rs := by
  obtain ⟨xs, h1, h2, h3⟩ := (id h)
  exact ⟨xs, .inr (hb xs h1), h2, fun k x e => itH_mono _ _ _ _ (SameN.of s) (h3 k x e)⟩
/-- a list that may be compared -/
def Fine (rs : List PQE) : Prop := ∀ r, r ∈ rs → FitR r ∧ okRow r
theorem Fine.nil : Fine [] := fun r h => by cases h
theorem Fine.app {rs ss : List PQE} (h1 : Fine rs) (h2 : Fine ss) : Fine (rs ++ ss) := fun r h => by
  rcases List.mem_append.mp h with h | h
  · exact h1 r h
  · exact h2 r h
theorem u_cp {K : Frag} {H : Hp} {Q : VK} {E : XK} {a b : Addr} {rs ss : List PQE} (hR : Facs K H a rs) (hS : Facs K H b ss) (f1 : Fine rs) (f2 : Fine ss) (l1 : rs.length ≤ 8) (l2 : ss.length ≤ 8) (e : esum rs + esum ss ≤ 5000)
    (q : Q (.int (cmpI (pw (·.1) rs * pw (·.2.1) ss) (pw (·.1) ss * pw (·.2.1) rs))) H) : sp2 (fs_cp K) [.ref a, .ref b] H Q E := by
  refine ⟨_, _, rfl, a, b, rs, ss, rfl, rfl, hR, hS, fun r hr => ⟨((f1.app f2) r hr).1.2.1, ((f1.app f2) r hr).1.2.2⟩, fun z => absurd z (by omega), fun _ k r h => absurd (f1 r (List.mem_of_getElem? h.1)).2 h.2.1, fun _ _ => ⟨fun z => absurd z (by omega), fun _ k r h => absurd (f2 r (List.mem_of_getElem? h.1)).2 h.2.1, fun _ _ => ⟨fun z => absurd z (by omega), fun _ => q⟩⟩⟩
theorem u_cmpd {H : Hp} {Q : VK} {E : XK} {a b : Addr} {rs ss : List PQE} (hR : RowsAt H a rs) (hS : RowsAt H b ss) (f1 : Fine rs) (f2 : Fine ss) (l1 : rs.length ≤ 8) (l2 : ss.length ≤ 8) (e1 : esum rs ≤ 5000) (e2 : esum ss ≤ 5000)
    (q : ∀ H', Same H H' → Q (.int (cmpI (pw (·.1) rs * pw (·.2.1) ss) (pw (·.1) ss * pw (·.2.1) rs))) H') : sp2 fs_cmp [.ref a, .ref b] H Q E := ⟨_, _, rfl, a, b, rs, ss, rfl, rfl, hR, hS, by omega, by omega, f1.app f2, e1, e2, q⟩
theorem u_hd {K : Frag} {H : Hp} {Q : VK} {E : XK} {l : Addr} {rs : List PQE} (hR : RowsAt H l rs) (n : rs.length ≤ 1000) (f : ∀ r, r ∈ rs → FitR r) (q : ∀ D H', H D = none → Same H H' → FacL K H' D rs → Q (.ref D) H') : sp1 (fs_hd K) [.ref l] H Q E := ⟨_, rfl, l, rs, rfl, hR, n, f, q⟩
theorem u_st {K : Frag} {H : Hp} {Q : VK} {E : XK} {a l : Addr} {rs : List PQE} (h : FacL K H a rs) (hR : RowsAt H l rs) (n : rs.length ≤ 1000) (f : ∀ r, r ∈ rs → FitR r) (q : Q (.bl true) H) : sp2 (fs_st K) [.ref a, .ref l] H Q E := ⟨_, _, rfl, a, l, rs, rfl, rfl, h, hR, n, f, q⟩
def fs_pr : F2 := fun x y H Q _ => ∃ (l m : Addr) (rs ss : List PQE), x = .ref l ∧ y = .ref m ∧ RowsAt H l rs ∧ RowsAt H m ss ∧ Fine rs ∧ Fine ss ∧ rs.length ≤ 8 ∧ ss.length ≤ 8 ∧ esum rs + esum ss ≤ 5000 ∧ ∀ H', Same H H' → Q (.bl true) H'
theorem u_pr {H : Hp} {Q : VK} {E : XK} {a b : Addr} {rs ss : List PQE} (hR : RowsAt H a rs) (hS : RowsAt H b ss) (f1 : Fine rs) (f2 : Fine ss) (l1 : rs.length ≤ 8) (l2 : ss.length ≤ 8) (e : esum rs + esum ss ≤ 5000) (q : ∀ H', Same H H' → Q (.bl true) H') : sp2 fs_pr [.ref a, .ref b] H Q E := ⟨_, _, rfl, a, b, rs, ss, rfl, rfl, hR, hS, f1, f2, l1, l2, e, q⟩
local macro_rules | `(tactic| walk_at "up") => `(tactic| first
  | assumption
  | (refine' IsR.mono (by assumption) ?zup; case zup => walk_at "up")
  | (refine' IsE.mono (by assumption) ?zup; case zup => walk_at "up")
  | (refine' Same.at (by assumption) ?zup; case zup => walk_at "up")
  | (refine' SqL.of ?zup; case zup => walk_at "up")
  | (refine' L2.Same.seq (by assumption) ?zup; case zup => walk_at "up"))
local macro_rules | `(tactic| walk_at "z") => `(tactic| first
  | ((with_reducible refine' z_var ?zvh ?_); (case zvh => exact rfl))
  | with_reducible refine z_c ?_
  | with_reducible refine z_cons ?_
  | with_reducible refine z_nil ?_
  | with_reducible refine z_op ?_
  | with_reducible refine z_nx ?_
  | with_reducible refine z_seq ?_
  | with_reducible refine z_asg ?_
  | with_reducible refine z_asgG ?_
  | with_reducible refine z_call ?_
  | with_reducible refine z_sq0 ?_
  | with_reducible refine z_sq1 ?_
  | with_reducible refine z_ifS ?_
  | with_reducible refine z_test ?_
  | with_reducible refine z_tb ?_
  | with_reducible refine z_bl ?_
  | with_reducible refine z_blI ?_
  | with_reducible refine z_ret ?_
  | with_reducible refine z_rt ?_
  | with_reducible refine z_T ?_
  | with_reducible refine z_F ?_
  | with_reducible refine z_add ?_
  | with_reducible refine z_sub ?_
  | with_reducible refine z_neg ?_
  | with_reducible refine z_un ?_
  | with_reducible refine z_eqI ?_
  | with_reducible refine z_neI ?_
  | with_reducible refine z_lt ?_
  | with_reducible refine z_le ?_
  | with_reducible refine z_gt ?_
  | with_reducible refine z_ge ?_
  | with_reducible refine z_not ?_
  | with_reducible refine z_and ?_
  | with_reducible refine z_or ?_
  | with_reducible refine z_andV ?_
  | with_reducible refine z_orV ?_
  | with_reducible refine z_notV ?_
  | with_reducible refine z_if ?_
  | with_reducible refine z_cb ?_
  | with_reducible refine z_int1 ?_
  | with_reducible refine z_intb ?_
  | with_reducible refine z_abs ?_
  | with_reducible refine z_gcd ?_
  | with_reducible refine z_isi_ii ?_
  | with_reducible refine z_isi_ib ?_
  | with_reducible refine z_next ?_
  | with_reducible refine z_drop ?_
  | with_reducible refine z_par ?_
  | with_reducible refine z_par2 ?_
  | with_reducible refine z_tupN ?_
  | with_reducible refine z_lstN ?_
  | ((with_reducible refine' z_nt ?zl1 ?_); (case zl1 => exact Nat.le_of_ble_eq_true rfl); intro p H' hp hs he)
  | ((with_reducible refine' z_gtup ?zl1 ?zl2 ?_); (case zl1 => walk_at "up"); (case zl2 => exact rfl))
  | with_reducible refine z_bk ?_
  | with_reducible refine z_ct ?_
  | with_reducible refine z_break ?_
  | with_reducible refine z_cont ?_
  | with_reducible refine z_retN ?_
  | with_reducible refine z_nn ?_
  | with_reducible refine z_mk ?_
  | with_reducible refine z_gn ?_
  | with_reducible refine z_gcons ?_
  | with_reducible refine z_gnil ?_
  | with_reducible refine z_mt ?_
  | with_reducible refine z_mko ?_
  | with_reducible refine z_for2 ?_
  | with_reducible refine z_ownI ?_
  | ((with_reducible refine' z_lenL ?zl1 ?_); (case zl1 => walk_at "up"))
  | ((with_reducible refine' z_ixT ?zl1 ?zl2 ?_); (case zl1 => walk_at "up"); (case zl2 => exact rfl))
  | ((with_reducible refine' z_mulL ?zl1 ?zl2 ?_); (case zl1 => omega); (case zl2 => omega))
  | ((with_reducible refine' z_mulR ?zl1 ?zl2 ?_); (case zl1 => omega); (case zl2 => omega))
  | ((with_reducible refine' z_divS ?zl1 ?zl2 ?_); (case zl1 => omega); (case zl2 => omega))
  | ((with_reducible refine' z_mulW ?zl1 ?zl2 ?zl3 ?zl4 ?_); (case zl1 => omega); (case zl2 => omega); (case zl3 => omega); (case zl4 => omega))
  | ((with_reducible refine' z_divW ?zl1 ?zl2 ?_); (case zl1 => omega); (case zl2 => omega)))
local macro_rules | `(tactic| walk_at "zz") => `(tactic| repeat (walk_at "z"))
local macro_rules | `(tactic| walk_at "z") => `(tactic| with_reducible refine z_lstN ?_)
local macro_rules | `(tactic| walk_at "z") => `(tactic| with_reducible refine z_p6 ?_)
local macro_rules | `(tactic| walk_at "z") => `(tactic| with_reducible refine z_p12 ?_)
local macro_rules | `(tactic| walk_at "z") => `(tactic| with_reducible refine z_p13 ?_)
local macro_rules | `(tactic| walk_at "z") => `(tactic| with_reducible refine z_calln ?_)
local macro_rules | `(tactic| walk_at "z") => `(tactic| with_reducible refine z_xfS ?_)
local macro_rules | `(tactic| walk_at "z") => `(tactic| with_reducible refine z_lcS ?_)
local macro_rules | `(tactic| walk_at "z") => `(tactic| with_reducible refine z_lcRS ?_)
local macro_rules | `(tactic| walk_at "z") => `(tactic| with_reducible refine z_lcZS ?_)
local macro_rules | `(tactic| walk_at "z") => `(tactic| with_reducible refine z_foS ?_)
local macro_rules | `(tactic| walk_at "z") => `(tactic| with_reducible refine z_for1 ?_)
local macro_rules | `(tactic| walk_at "z") => `(tactic| with_reducible refine z_tsl ?_)
local macro_rules | `(tactic| walk_at "z") => `(tactic| with_reducible refine z_np ?_)
local macro_rules | `(tactic| walk_at "z") => `(tactic| with_reducible refine z_pt ?_)
local macro_rules | `(tactic| walk_at "z") => `(tactic| with_reducible refine z_pti ?_)
local macro_rules | `(tactic| walk_at "z") => `(tactic| with_reducible refine z_catI ?_)
local macro_rules | `(tactic| walk_at "z") => `(tactic| with_reducible refine z_isNI ?_)
local macro_rules | `(tactic| walk_at "z") => `(tactic| with_reducible refine z_isNN ?_)
local macro_rules | `(tactic| walk_at "z") => `(tactic| with_reducible refine z_notNI ?_)
local macro_rules | `(tactic| walk_at "z") => `(tactic| with_reducible refine z_notNN ?_)
local macro_rules | `(tactic| walk_at "z") => `(tactic| with_reducible refine z_gsub ?_)
local macro_rules | `(tactic| walk_at "z") => `(tactic| with_reducible refine z_isNb ?_)
local macro_rules | `(tactic| walk_at "z") => `(tactic| with_reducible refine z_notNb ?_)
local macro_rules | `(tactic| walk_at "z") => `(tactic| ((with_reducible refine' z_nlR ?zl1 ?_); (case zl1 => exact Nat.le_of_ble_eq_true rfl); intro p H' hp hs he))
local macro_rules | `(tactic| walk_at "z") => `(tactic| ((with_reducible refine' z_repR ?zl1 ?zl2 ?_); (case zl1 => omega); (case zl2 => omega)))
local macro_rules | `(tactic| walk_at "z") => `(tactic| ((with_reducible refine' z_repL ?zl1 ?zl2 ?_); (case zl1 => omega); (case zl2 => omega)))
local macro_rules | `(tactic| walk_at "z") => `(tactic| ((with_reducible refine' z_lenLst ?zl1 ?_); (case zl1 => walk_at "up")))
local macro_rules | `(tactic| walk_at "z") => `(tactic| ((with_reducible refine' z_cat ?zl1 ?zl2 ?zl3 ?_); (case zl1 => walk_at "up"); (case zl2 => walk_at "up"); (case zl3 => (simp only [List.length_map, List.length_cons, List.length_nil, List.length_append, List.length_replicate]; omega)); intro p H' hp hs he))
local macro_rules | `(tactic| walk_at "z") => `(tactic| with_reducible refine z_sfl ?_)
local macro_rules | `(tactic| walk_at "z") => `(tactic| with_reducible refine z_lcES ?_)
local macro_rules | `(tactic| walk_at "z") => `(tactic| with_reducible refine z_lcMS ?_)
local macro_rules | `(tactic| walk_at "z") => `(tactic| with_reducible refine z_foES ?_)
local macro_rules | `(tactic| walk_at "z") => `(tactic| with_reducible refine z_fo3S ?_)
local macro_rules | `(tactic| walk_at "z") => `(tactic| with_reducible refine z_sta ?_)
local macro_rules | `(tactic| walk_at "z") => `(tactic| with_reducible refine z_sta1 ?_)
local macro_rules | `(tactic| walk_at "z") => `(tactic| with_reducible refine z_lcTS ?_)
local macro_rules | `(tactic| walk_at "z") => `(tactic| with_reducible refine z_foTS ?_)
local macro_rules | `(tactic| walk_at "z") => `(tactic| with_reducible refine z_revTS ?_)
local macro_rules | `(tactic| walk_at "z") => `(tactic| with_reducible refine z_max2 ?_)
local macro_rules | `(tactic| walk_at "z") => `(tactic| ((with_reducible refine' z_fldt ?zc1 ?zc2 ?zl1 ?zl2 ?_); (case zc1 => exact Lw.cl_Ratio (by assumption)); (case zc2 => exact Lw.na_Ratio_top (by assumption)); (case zl1 => exact rfl); (case zl2 => walk_at "up")))
local macro_rules | `(tactic| walk_at "z") => `(tactic| ((with_reducible refine' z_fldb ?zc1 ?zc2 ?zl1 ?zl2 ?_); (case zc1 => exact Lw.cl_Ratio (by assumption)); (case zc2 => exact Lw.na_Ratio_bottom (by assumption)); (case zl1 => exact rfl); (case zl2 => walk_at "up")))
local macro_rules | `(tactic| walk_at "z") => `(tactic| ((with_reducible refine' u_mtF ?zl1 ?_); (case zl1 => walk_at "up")))
local macro_rules | `(tactic| walk_at "z") => `(tactic| ((with_reducible refine' z_ixLst ?zl1 ?zl2 ?_); (case zl1 => walk_at "up"); (case zl2 => exact rfl)))
local macro_rules | `(tactic| walk_at "z") => `(tactic| with_reducible refine z_for3 ?_)
local macro_rules | `(tactic| walk_at "z") => `(tactic| with_reducible refine z_tbits ?_)
local macro_rules | `(tactic| walk_at "z") => `(tactic| with_reducible refine z_tbi ?_)
local macro_rules | `(tactic| walk_at "z") => `(tactic| ((with_reducible refine' z_div2S ?zl1 ?zl2 ?_); (case zl1 => omega); (case zl2 => omega)))
local macro_rules | `(tactic| walk_at "z") => `(tactic| with_reducible refine u_who ?_)
local macro_rules | `(tactic| walk_at "z") => `(tactic| with_reducible refine z_asg2 ?_)
local macro_rules | `(tactic| walk_at "z") => `(tactic| ((with_reducible refine' u_cell ?zl1 ?zl2 ?_); (case zl1 => walk_at "up"); (case zl2 => omega); intro c))
local macro_rules | `(tactic| walk_at "z") => `(tactic| ((with_reducible refine' u_mod ?zl1 ?_); (case zl1 => omega)))
theorem same02j {H H1 H2 : Hp} (h : Same H1 H2) (e : Same H H1) : Same H H2 := e.trans h
local macro_rules | `(tactic| walk_at "sm") => `(tactic| first
  | assumption
  | exact fun _ _ h => h
  | (refine' same02j (by assumption) ?zsm; case zsm => walk_at "sm"))
local macro_rules | `(tactic| walk_at "up") => `(tactic| first
  | assumption
  | (with_reducible refine' IsR.mono (by assumption) ?zup; case zup => walk_at "up")
  | (with_reducible refine' Fr.mono (by assumption) ?zup; case zup => walk_at "up")
  | (with_reducible refine' Same.at (by assumption) ?zup; case zup => walk_at "up")
  | (with_reducible refine' Facs.mono (by assumption) ?zup; case zup => walk_at "up")
  | (with_reducible refine' IsPool.mono (by assumption) ?zup; case zup => walk_at "up")
  | (with_reducible refine' RowsAt.mono (by assumption) ?zup; case zup => walk_at "up")
  | (with_reducible refine' FacL.mono (by assumption) ?zup; case zup => walk_at "up")
  | fail)
section
variable {P : Program} {w : World} {K : Frag} {mg : Str → Option Value} {base : Heap}
theorem ok_law_products (L : Lw K mg) {fd : FuncData} (F : FunD K "_law_products" "_law_products" (defArgs s_law_products) (defBody s_law_products) (defScope s_law_products) (df_law_products.dvs K) (df_law_products.kws K) (He.fAd K ("_law_products", none)) fd) : FnOk P w K mg base (L2N.CX P w) 6 (He.fAd K ("_law_products", none)) fd (["first", "second"] : List Str) (sp2 fs_pr) := by
  refine FunD.ok F sc_law_products len2 (fun cdv A outer s H vs Q E hr h => ?_)
  obtain ⟨a, b, rfl, h⟩ := h
  refine ⟨_, (pss_cons (ps_set (i := 2) sc_law_products.nd rfl (by first | exact Or.inl rfl | exact Or.inr rfl) (pe_c (c_law_handed (K := K) L) hr (by decide) (L2N.takes_of rfl rfl rfl rfl) (pa_cons (pv 0) pa_nil)))
    (pss_cons (ps_set (i := 3) sc_law_products.nd rfl (by first | exact Or.inl rfl | exact Or.inr rfl) (pe_c (c_law_handed (K := K) L) hr (by decide) (L2N.takes_of rfl rfl rfl rfl) (pa_cons (pv 1) pa_nil)))
    (pss_cons (ps_set (i := 4) sc_law_products.nd rfl (by first | exact Or.inl rfl | exact Or.inr rfl) (pe_c (c_law_compared (K := K) L) hr (by decide) (L2N.takes_of rfl rfl rfl rfl) (pa_cons (pv 0) (pa_cons (pv 1) pa_nil))))
    (pss_cons (ps_if (pt_not (pt_val (pe_c (c_law_whole (K := K) L) hr (by decide) (L2N.takes_of rfl rfl rfl rfl) (pa_cons (pe_c (c_compare_products (K := K) L) hr (by decide) (L2N.takes_of rfl rfl rfl rfl) (pa_cons (pv 2) (pa_cons (pv 3) pa_nil))) (pa_cons (pv 4) pa_nil))))) (pss_one (ps_ret pe_bl)) pss_nil)
    (pss_cons (ps_if (pt_not (pt_val (pe_c (c_law_whole (K := K) L) hr (by decide) (L2N.takes_of rfl rfl rfl rfl) (pa_cons (pe_c (c_compare_products (K := K) L) hr (by decide) (L2N.takes_of rfl rfl rfl rfl) (pa_cons (pe_callTy (callK rTup1 (K := K) rfl call_tuple_of) (by rfl) L.f_tuple (by decide +kernel) (pa_cons (pv 3) pa_nil)) (pa_cons (pv 2) pa_nil))) (pa_cons (pe_un o_neg (pv 4)) pa_nil))))) (pss_one (ps_ret pe_bl)) pss_nil)
    (pss_cons (ps_if (pt_cmpR o_le (pe_callB (callK rSum (K := K) rfl (cr_sum rfl)) (by rfl) L.f_sum (by decide +kernel) (pa_cons (pe_lc (own := [("row", 5)]) (g := (gName 5)) (tt := tYes) rfl sc_law_products.nd (pi_listK (K := K) rfl (pv 0)) (blkOk_by (N := ["first", "second", "one", "two", "due", "row"]) (sc := defScope s_law_products) (by decide +kernel)) (fun _ _ _ _ _ => pg_name (i := 5) sc_law_products.nd rfl (Or.inl rfl)) (fun _ _ _ _ _ => pts_nil) (fun _ _ _ _ _ => (pe_ix (ix_seqK (K := K) rfl) (pv 5) pe_int (fun _ _ => rfl)))) pa_nil)) pe_int (nomark _)) (pss_one (ps_if (pt_not (pt_val (pe_c (c_law_whole (K := K) L) hr (by decide) (L2N.takes_of rfl rfl rfl rfl) (pa_cons (pe_c (c_compare_products (K := K) L) hr (by decide) (L2N.takes_of rfl rfl rfl rfl) (pa_cons (pv 2) (pa_cons (pv 2) pa_nil))) (pa_cons pe_int pa_nil))))) (pss_one (ps_ret pe_bl)) pss_nil)) pss_nil)
    (pss_cons (ps_if (pt_not (pt_val (pe_c (c_law_whole (K := K) L) hr (by decide) (L2N.takes_of rfl rfl rfl rfl) (pa_cons (pe_c (c_compare_products (K := K) L) hr (by decide) (L2N.takes_of rfl rfl rfl rfl) (pa_cons (pe_lst pa_nil) (pa_cons (pe_lst pa_nil) pa_nil))) (pa_cons pe_int pa_nil))))) (pss_one (ps_ret pe_bl)) pss_nil)
    (pss_cons (ps_if (pt_not (pt_val (pe_c (c_law_whole (K := K) L) hr (by decide) (L2N.takes_of rfl rfl rfl rfl) (pa_cons (pe_c (c_compare_products (K := K) L) hr (by decide) (L2N.takes_of rfl rfl rfl rfl) (pa_cons (pe_lst pa_nil) (pa_cons (pv 3) pa_nil))) (pa_cons (pe_c (c_law_compared (K := K) L) hr (by decide) (L2N.takes_of rfl rfl rfl rfl) (pa_cons (pe_lst pa_nil) (pa_cons (pv 1) pa_nil))) pa_nil))))) (pss_one (ps_ret pe_bl)) pss_nil)
    (pss_one (ps_ret (pe_and (pe_c (c_law_stays (K := K) L) hr (by decide) (L2N.takes_of rfl rfl rfl rfl) (pa_cons (pv 2) (pa_cons (pv 0) pa_nil))) (pe_one (pe_c (c_law_stays (K := K) L) hr (by decide) (L2N.takes_of rfl rfl rfl rfl) (pa_cons (pv 3) (pa_cons (pv 1) pa_nil))))))))))))))), ?_⟩
  rw [show L2.start (["first", "second", "one", "two", "due", "row"] : List Str) [a, b] = [some a, some b, none, none, none, none] from rfl]
  obtain ⟨l, m, rs, ss, rfl, rfl, hR, hS, f1, f2, l1, l2, e, q⟩ := h
  have e1 := esum_nn fun r hr => (f1 r hr).2
  have e2 := esum_nn fun r hr => (f2 r hr).2
  try dsimp only [List.set]
  walk_at "zz"
  refine u_hd hR (by omega) (fun r hr => (f1 r hr).1) (fun one H1 g1 s1 h1 => ?_)
  try dsimp only [List.set]
  walk_at "zz"
  refine u_hd (hS.mono s1) (by omega) (fun r hr => (f2 r hr).1) (fun two H2 g2 s2 h2 => ?_)
  have hR2 := hR.mono (s1.trans s2)
  have hS2 := hS.mono (s1.trans s2)
  have h12 := h1.mono s2
  try dsimp only [List.set]
  walk_at "zz"
  refine u_cmpd hR2 hS2 f1 f2 l1 l2 (by omega) (by omega) (fun H3 s3 => ?_)
  try dsimp only [List.set]
  walk_at "zz"
  refine u_cp (h12.mono s3).facs (h2.mono s3).facs f1 f2 l1 l2 e ?_
  try dsimp only [List.set]
  walk_at "zz"
  rw [decide_eq_true rfl]
  obtain ⟨us, hu, _, _⟩ := id (h2.mono s3)

  try dsimp only [List.set]
  walk_at "zz"
  refine z_tup1L hu (fun tw H4 g4 s4 h4 => ?_)
  have h24 := (h2.mono s3).tup s4 (fun xs hx => by
    rw [hu] at hx
    cases hx
    exact h4)
  have h14 := ((h12.mono s3).mono s4)
  have h2s := ((h2.mono s3).mono s4)
  have hR4 := (hR2.mono s3).mono s4
  have hS4 := (hS2.mono s3).mono s4
  try dsimp only [List.set]
  walk_at "zz"
  refine u_cp h24 h14.facs f2 f1 l2 l1 (by omega) ?_
  try dsimp only [List.set]
  walk_at "zz"
  rw [cmp_neg, decide_eq_true rfl]
  try dsimp only [List.set]
  walk_at "zz"
  obtain ⟨xs, x1, x2, x3⟩ := id hR4
  refine z_lcVF (f := fun k => V.int ((rs.map (·.2.2)).getD k 0)) x1 (by omega) (fun k x H5 N5 hx s5 cc => ?_) (fun L5 H5 g5 s5 h5 => ?_)
  · obtain ⟨c, r, er, rfl, ec⟩ := x3 k x hx
    have ec := s5 _ _ ec
    have ev : (rs.map (·.2.2)).getD k 0 = r.2.2 := by
      rw [List.getD_eq_getElem?_getD, List.getElem?_map, er]
      rfl
    refine ⟨rfl, ?_⟩
    try dsimp only [List.set]
    walk_at "zz"
    rw [← ev]
    exact cc _ (fun _ _ h => h)
  have e5 : H5 L5 = some (.lst ((rs.map (·.2.2)).map V.int)) := by
    rw [h5]
    refine congrArg some (congrArg HO.lst ?_)
    refine List.ext_getElem (by simp [x2]) (fun i h1 h2 => ?_)
    have hi : i < rs.length := by simpa using h2
    rw [List.getElem_map, List.getElem_range, List.getElem_map, List.getD_eq_getElem?_getD, List.getElem?_eq_getElem (by simpa using hi)]
    rfl
  try dsimp only [List.set]
  walk_at "zz"
  refine z_sumI e5 ?_
  rw [esum_sum]
  have h15 := h14.mono s5
  have h25 := h2s.mono s5
  have hR5 := hR4.mono s5
  have hS5 := hS4.mono s5
  have S5 : Same H H5 := by walk_at "sm"
  try dsimp only [List.set]
  walk_at "zz"
  refine z_d2 (fun c5 => ?_) (fun c5 => ?_)
  · try dsimp only [List.set]
    walk_at "zz"
    refine u_cp h15.facs h15.facs f1 f1 l1 l1 (by omega) ?_
    try dsimp only [List.set]
    walk_at "zz"
    rw [cmp_self, decide_eq_true rfl]
    try dsimp only [List.set]
    walk_at "zz"
    rename_i ea Ha ga sa ha eb Hb gb sb hb
    have ha2 := sb _ _ ha
    refine u_cp (Facs.nil ha2) (Facs.nil hb) Fine.nil Fine.nil (by decide) (by decide) (by decide) ?_
    rw [cmp_self]
    try dsimp only [List.set]
    walk_at "zz"
    rw [decide_eq_true rfl]
    try dsimp only [List.set]
    walk_at "zz"
    rename_i ec Hc gc sc hc
    have h26 := ((h25.mono sa).mono sb).mono sc
    have h16 := ((h15.mono sa).mono sb).mono sc
    have hR6 := ((hR5.mono sa).mono sb).mono sc
    have hS6 := ((hS5.mono sa).mono sb).mono sc
    refine u_cp (Facs.nil hc) h26.facs Fine.nil f2 (by decide) l2 (by show 0 + esum ss ≤ 5000; omega) ?_
    try dsimp only [List.set]
    walk_at "zz"
    rename_i ed Hd gd sd hd
    refine u_cmpd (RowsAt.nil hd) (hS6.mono sd) Fine.nil f2 (by decide) l2 (by decide) (by omega) (fun H7 s7 => ?_)
    try dsimp only [List.set]
    walk_at "zz"
    rw [decide_eq_true rfl]
    try dsimp only [List.set]
    walk_at "zz"
    refine u_st ((h16.mono sd).mono s7) ((hR6.mono sd).mono s7) (by omega) (fun r hr => (f1 r hr).1) ?_
    try dsimp only [List.set]
    walk_at "zz"
    refine u_st ((h26.mono sd).mono s7) ((hS6.mono sd).mono s7) (by omega) (fun r hr => (f2 r hr).1) ?_
    try dsimp only [List.set]
    walk_at "zz"
    exact q _ (by walk_at "sm")
  · try dsimp only [List.set]
    walk_at "zz"
    rename_i ea Ha ga sa ha eb Hb gb sb hb
    have ha2 := sb _ _ ha
    refine u_cp (Facs.nil ha2) (Facs.nil hb) Fine.nil Fine.nil (by decide) (by decide) (by decide) ?_
    rw [cmp_self]
    try dsimp only [List.set]
    walk_at "zz"
    rw [decide_eq_true rfl]
    try dsimp only [List.set]
    walk_at "zz"
    rename_i ec Hc gc sc hc
    have h26 := ((h25.mono sa).mono sb).mono sc
    have h16 := ((h15.mono sa).mono sb).mono sc
    have hR6 := ((hR5.mono sa).mono sb).mono sc
    have hS6 := ((hS5.mono sa).mono sb).mono sc
    refine u_cp (Facs.nil hc) h26.facs Fine.nil f2 (by decide) l2 (by show 0 + esum ss ≤ 5000; omega) ?_
    try dsimp only [List.set]
    walk_at "zz"
    rename_i ed Hd gd sd hd
    refine u_cmpd (RowsAt.nil hd) (hS6.mono sd) Fine.nil f2 (by decide) l2 (by decide) (by omega) (fun H7 s7 => ?_)
    try dsimp only [List.set]
    walk_at "zz"
    rw [decide_eq_true rfl]
    try dsimp only [List.set]
    walk_at "zz"
    refine u_st ((h16.mono sd).mono s7) ((hR6.mono sd).mono s7) (by omega) (fun r hr => (f1 r hr).1) ?_
    try dsimp only [List.set]
    walk_at "zz"
    refine u_st ((h26.mono sd).mono s7) ((hS6.mono sd).mono s7) (by omega) (fun r hr => (f2 r hr).1) ?_
    try dsimp only [List.set]
    walk_at "zz"
    exact q _ (by walk_at "sm")
theorem c_law_products (L : Lw K mg) : Cal P w K mg base 6 "_law_products" (sp2 fs_pr) [] := by
  obtain ⟨fd, F⟩ := L.d_law_products
  exact ⟨⟨_, fd, ["first", "second"], [], ok_law_products L F, L.g_law_products, F.kp, F.bindsN (fun _ _ _ _ _ _ us hl => match us, hl with | [_, _], _ => rfl), .nil⟩⟩
end
end T
set_option maxHeartbeats 4000000
namespace T
open PySem PySem.Spec PyProof.Rows L2 Z
/-- rows put together -/
theorem RowsAt.cat {H H' : Hp} {a b c : Addr} {rs ss : List PQE} (h1 : RowsAt H a rs) (h2 : RowsAt H b ss) (s : Same H H') (hc : ∀ xs ys, H a = some (.lst xs) → H b = some (.lst ys) → H' c = some (.lst (xs ++ ys))) : RowsAt H' c (rs ++ ss) := by
  obtain ⟨xs, a1, a2, a3⟩ := h1
  obtain ⟨ys, b1, b2, b3⟩ := h2
  refine ⟨xs ++ ys, hc xs ys a1 b1, by rw [List.length_append, List.length_append, a2, b2], fun k x e => ?_⟩
  by_cases hk : k < xs.length
  · rw [List.getElem?_append_left hk] at e
    obtain ⟨c, r, e1, e2, e3⟩ := a3 k x e
    exact ⟨c, r, by rw [List.getElem?_append_left (by omega)]; exact e1, e2, s _ _ e3⟩
  · rw [List.getElem?_append_right (by omega)] at e
    obtain ⟨c, r, e1, e2, e3⟩ := b3 _ x e
    exact ⟨c, r, by rw [List.getElem?_append_right (by omega), ← a2]; exact e1, e2, s _ _ e3⟩
theorem z_catR {H : Hp} {Q : VK} {a b : Addr} {rs ss : List PQE} (h1 : RowsAt H a rs) (h2 : RowsAt H b ss) (n1 : rs.length ≤ 1000) (n2 : ss.length ≤ 1000) (k : ∀ p H', H p = none → Same H H' → RowsAt H' p (rs ++ ss) → Q (.ref p) H') : zCat (.ref a) (.ref b) H Q := by
  obtain ⟨xs, a1, a2, a3⟩ := id h1
  obtain ⟨ys, b1, b2, b3⟩ := id h2
  refine z_cat a1 b1 (by omega) (fun p H' hp s e => k p H' hp s (h1.cat h2 s fun us vs hu hv => ?_))
  rw [a1] at hu
  rw [b1] at hv
  cases hu
  cases hv
  exact e
theorem esum_cat (l m : List PQE) : esum (l ++ m) = esum l + esum m := by
  induction l with
  | nil => simp [esum]
  | cons x l ih =>
    rw [List.cons_append, esum, esum, ih]
    omega
/-- what a comparison refuses -/
inductive Out
  | sz (n : Int)
  | ng (r : PQE)
  | oob (e : Int)
  | hv (w : Int)
def bad (r : PQE) : Bool := decide (r.1 < 0) || decide (r.2.2 < 0) || decide (5000 < r.2.2)
theorem bad_not {r : PQE} (h : ¬ okRow r) : bad r = true := by
  unfold bad
  simp only [Bool.or_eq_true, decide_eq_true_eq]
  unfold okRow at h
  omega
theorem bad_ok {r : PQE} (h : okRow r) : bad r = false := by
  obtain ⟨h1, h2, h3⟩ := h
  unfold bad
  rw [decide_eq_false (by omega), decide_eq_false (by omega), decide_eq_false (by omega)]
  rfl
def outR (r : PQE) : Out := if r.1 < 0 then .ng r else .oob r.2.2
def outS (rs : List PQE) : Option Out := if 8 < rs.length then some (.sz rs.length) else (rs.find? bad).map outR
def outOf (rs ss : List PQE) : Option Out := (outS rs).or ((outS ss).or (if 5000 < esum rs + esum ss then some (.hv (esum rs + esum ss)) else none))
theorem outS_sz {rs : List PQE} (h : 8 < rs.length) : outS rs = some (.sz rs.length) := if_pos h
theorem outS_bad {rs : List PQE} {k : Nat} {r : PQE} (l : rs.length ≤ 8) (h : BadAt rs k r) : outS rs = some (outR r) := by
  obtain ⟨h1, h2, h3⟩ := h
  have e : rs.find? bad = some r := by
    obtain ⟨hk, hx⟩ := List.getElem?_eq_some_iff.mp h1
    refine List.find?_eq_some_iff_getElem.mpr ⟨bad_not h2, k, hk, hx, fun j hj => ?_⟩
    have := bad_ok (h3 j rs[j] hj (List.getElem?_eq_getElem (by omega)))
    rw [this]
    rfl
  unfold outS
  rw [if_neg (by omega), e]
  rfl
theorem outS_ok {rs : List PQE} (l : rs.length ≤ 8) (h : ∀ r, r ∈ rs → okRow r) : outS rs = none := by
  unfold outS
  rw [if_neg (by omega), List.find?_eq_none.mpr (fun r hr => by rw [bad_ok (h r hr)]; decide)]
  rfl
theorem out_at {rs ss t : List PQE} {k : Nat} {o o' : Out} (ho : outOf rs ss = some o) (h : ∀ j u, j < k → [rs, ss][j]? = some u → outS u = none) (ht : [rs, ss][k]? = some t) (e : outS t = some o') : o = o' := by
  unfold outOf at ho
  rcases k with _ | _ | k
  · cases ht
    rw [e] at ho
    exact (Option.some.inj ho).symm
  · cases ht
    rw [h 0 rs (by omega) rfl, e] at ho
    exact (Option.some.inj ho).symm
  · cases ht
theorem out_hv {rs ss : List PQE} {o : Out} (ho : outOf rs ss = some o) (h1 : outS rs = none) (h2 : outS ss = none) : 5000 < esum rs + esum ss ∧ o = .hv (esum rs + esum ss) := by
  unfold outOf at ho
  rw [h1, h2, Option.none_or, Option.none_or] at ho
  by_cases c : 5000 < esum rs + esum ss
  · rw [if_pos c] at ho
    exact ⟨c, (Option.some.inj ho).symm⟩
  · rw [if_neg c] at ho
    cases ho
def ErrC (K : Frag) : Out → Addr
  | .sz _ => He.ga K "BadSize"
  | .ng _ => He.ga K "Negative"
  | .oob _ => He.ga K "OutOfBounds"
  | .hv _ => He.ga K "TooHeavy"
def ErrAt (K : Frag) (H : Hp) (d : Addr) : Out → Prop
  | .sz n => H d = some (.xd [("size", .int n)])
  | .ng r => ∃ p, Fr K H p r.1 r.2.1 ∧ H d = some (.xd [("ratio", .ref p)])
  | .oob e => H d = some (.xd [("value", .int e)])
  | .hv n => H d = some (.xd [("work", .int n)])
theorem u_cpE {K : Frag} {H : Hp} {Q : VK} {E : XK} {a b : Addr} {rs ss : List PQE} {o : Out} (hR : Facs K H a rs) (hS : Facs K H b ss) (f : ∀ r, r ∈ rs ++ ss → FitR r) (ho : outOf rs ss = some o)
    (q : ∀ d H', Same H H' → ErrAt K H' d o → E (.ref (ErrC K o)) (some d) H') : sp2 (fs_cp K) [.ref a, .ref b] H Q E := by
  have a1 : ∀ {o'}, outS rs = some o' → o = o' := fun e => out_at (k := 0) ho (fun j u hj => absurd hj (by omega)) rfl e
  have a2 : ∀ {o'}, outS rs = none → outS ss = some o' → o = o' := fun e0 e => out_at (k := 1) ho (fun j u hj hu => by
    obtain rfl : j = 0 := by omega
    cases hu
    exact e0) rfl e
  refine ⟨_, _, rfl, a, b, rs, ss, rfl, rfl, hR, hS, fun r hr => (f r hr).2, fun z d H' s hd => ?_, fun z k r h => ?_, fun z ok => ?_⟩
  · obtain rfl := a1 (outS_sz z)
    exact q d H' s hd
  · have e := a1 (outS_bad z h)
    refine ⟨fun c p d H' s hF hd => ?_, fun c d H' s hd => ?_⟩
    · rw [outR, if_pos c] at e
      subst e
      exact q d H' s ⟨p, hF, hd⟩
    · rw [outR, if_neg (by omega)] at e
      subst e
      exact q d H' s hd
  have n1 := outS_ok z ok
  refine ⟨fun z d H' s hd => ?_, fun z k r h => ?_, fun z ok => ?_⟩
  · obtain rfl := a2 n1 (outS_sz z)
    exact q d H' s hd
  · have e := a2 n1 (outS_bad z h)
    refine ⟨fun c p d H' s hF hd => ?_, fun c d H' s hd => ?_⟩
    · rw [outR, if_pos c] at e
      subst e
      exact q d H' s ⟨p, hF, hd⟩
    · rw [outR, if_neg (by omega)] at e
      subst e
      exact q d H' s hd
  have n2 := outS_ok z ok
  obtain ⟨w, rfl⟩ := out_hv ho n1 n2
  exact ⟨fun _ d H' s hd => q d H' s hd, fun w' => absurd w' (by omega)⟩
def DueAt (H : Hp) (d : Addr) : Out → Prop
  | .sz n => H d = some (.tup [.int 1, .int n])
  | .ng r => ∃ p, H d = some (.tup [.int 2, .ref p]) ∧ H p = some (.tup [.int r.1, .int r.2.1, .int r.2.2])
  | .oob e => H d = some (.tup [.int 3, .int e])
  | .hv n => H d = some (.tup [.int 4, .int n])
def fs_du : F2 := fun x y H Q _ => ∃ (l m : Addr) (rs ss : List PQE) (o : Out), x = .ref l ∧ y = .ref m ∧ RowsAt H l rs ∧ RowsAt H m ss ∧ rs.length ≤ 20 ∧ ss.length ≤ 20 ∧ outOf rs ss = some o ∧ ∀ d H', Same H H' → DueAt H' d o → Q (.ref d) H'
def fs_pe : F2 := fun x y H Q _ => ∃ (l m : Addr) (rs ss : List PQE) (o : Out), x = .ref l ∧ y = .ref m ∧ RowsAt H l rs ∧ RowsAt H m ss ∧ rs.length ≤ 20 ∧ ss.length ≤ 20 ∧ (∀ r, r ∈ rs ++ ss → FitR r) ∧ outOf rs ss = some o ∧ ∀ H', Same H H' → Q (.bl true) H'
theorem outR_ng {x r : PQE} (h : outR x = .ng r) : x = r := by
  unfold outR at h
  split at h
  · exact Out.ng.inj h
  · cases h
theorem outS_ng {rs : List PQE} {r : PQE} (h : outS rs = some (.ng r)) : r ∈ rs := by
  unfold outS at h
  split at h
  · cases h
  · cases e : rs.find? bad with
    | none =>
      rw [e] at h
      cases h
    | some x =>
      rw [e] at h
      obtain rfl := outR_ng (Option.some.inj h)
      exact List.mem_of_find?_eq_some e
theorem outS_hv {rs : List PQE} {w : Int} (h : outS rs = some (.hv w)) : False := by
  unfold outS at h
  split at h
  · cases h
  · cases e : rs.find? bad with
    | none =>
      rw [e] at h
      cases h
    | some x =>
      rw [e] at h
      have h := Option.some.inj h
      unfold outR at h
      split at h <;> cases h
theorem outOf_ng {rs ss : List PQE} {r : PQE} (h : outOf rs ss = some (.ng r)) : r ∈ rs ++ ss := by
  unfold outOf at h
  cases e : outS rs with
  | some o =>
    rw [e] at h
    cases h
    exact List.mem_append_left _ (outS_ng e)
  | none =>
    rw [e, Option.none_or] at h
    cases e2 : outS ss with
    | some o =>
      rw [e2] at h
      cases h
      exact List.mem_append_right _ (outS_ng e2)
    | none =>
      rw [e2, Option.none_or] at h
      split at h <;> cases h
theorem outOf_hv {rs ss : List PQE} {w : Int} (h : outOf rs ss = some (.hv w)) : 5000 < w := by
  unfold outOf at h
  cases e : outS rs with
  | some o =>
    rw [e] at h
    cases h
    exact (outS_hv e).elim
  | none =>
    rw [e, Option.none_or] at h
    cases e2 : outS ss with
    | some o =>
      rw [e2] at h
      cases h
      exact (outS_hv e2).elim
    | none =>
      rw [e2, Option.none_or] at h
      split at h
      · cases h
        assumption
      · cases h
local macro_rules | `(tactic| walk_at "up") => `(tactic| first
  | assumption
  | (refine' IsR.mono (by assumption) ?zup; case zup => walk_at "up")
  | (refine' IsE.mono (by assumption) ?zup; case zup => walk_at "up")
  | (refine' Same.at (by assumption) ?zup; case zup => walk_at "up")
  | (refine' SqL.of ?zup; case zup => walk_at "up")
  | (refine' L2.Same.seq (by assumption) ?zup; case zup => walk_at "up"))
local macro_rules | `(tactic| walk_at "z") => `(tactic| first
  | ((with_reducible refine' z_var ?zvh ?_); (case zvh => exact rfl))
  | with_reducible refine z_c ?_
  | with_reducible refine z_cons ?_
  | with_reducible refine z_nil ?_
  | with_reducible refine z_op ?_
  | with_reducible refine z_nx ?_
  | with_reducible refine z_seq ?_
  | with_reducible refine z_asg ?_
  | with_reducible refine z_asgG ?_
  | with_reducible refine z_call ?_
  | with_reducible refine z_sq0 ?_
  | with_reducible refine z_sq1 ?_
  | with_reducible refine z_ifS ?_
  | with_reducible refine z_test ?_
  | with_reducible refine z_tb ?_
  | with_reducible refine z_bl ?_
  | with_reducible refine z_blI ?_
  | with_reducible refine z_ret ?_
  | with_reducible refine z_rt ?_
  | with_reducible refine z_T ?_
  | with_reducible refine z_F ?_
  | with_reducible refine z_add ?_
  | with_reducible refine z_sub ?_
  | with_reducible refine z_neg ?_
  | with_reducible refine z_un ?_
  | with_reducible refine z_eqI ?_
  | with_reducible refine z_neI ?_
  | with_reducible refine z_lt ?_
  | with_reducible refine z_le ?_
  | with_reducible refine z_gt ?_
  | with_reducible refine z_ge ?_
  | with_reducible refine z_not ?_
  | with_reducible refine z_and ?_
  | with_reducible refine z_or ?_
  | with_reducible refine z_andV ?_
  | with_reducible refine z_orV ?_
  | with_reducible refine z_notV ?_
  | with_reducible refine z_if ?_
  | with_reducible refine z_cb ?_
  | with_reducible refine z_int1 ?_
  | with_reducible refine z_intb ?_
  | with_reducible refine z_abs ?_
  | with_reducible refine z_gcd ?_
  | with_reducible refine z_isi_ii ?_
  | with_reducible refine z_isi_ib ?_
  | with_reducible refine z_next ?_
  | with_reducible refine z_drop ?_
  | with_reducible refine z_par ?_
  | with_reducible refine z_par2 ?_
  | with_reducible refine z_tupN ?_
  | with_reducible refine z_lstN ?_
  | ((with_reducible refine' z_nt ?zl1 ?_); (case zl1 => exact Nat.le_of_ble_eq_true rfl); intro p H' hp hs he)
  | ((with_reducible refine' z_gtup ?zl1 ?zl2 ?_); (case zl1 => walk_at "up"); (case zl2 => exact rfl))
  | with_reducible refine z_bk ?_
  | with_reducible refine z_ct ?_
  | with_reducible refine z_break ?_
  | with_reducible refine z_cont ?_
  | with_reducible refine z_retN ?_
  | with_reducible refine z_nn ?_
  | with_reducible refine z_mk ?_
  | with_reducible refine z_gn ?_
  | with_reducible refine z_gcons ?_
  | with_reducible refine z_gnil ?_
  | with_reducible refine z_mt ?_
  | with_reducible refine z_mko ?_
  | with_reducible refine z_for2 ?_
  | with_reducible refine z_ownI ?_
  | ((with_reducible refine' z_lenL ?zl1 ?_); (case zl1 => walk_at "up"))
  | ((with_reducible refine' z_ixT ?zl1 ?zl2 ?_); (case zl1 => walk_at "up"); (case zl2 => exact rfl))
  | ((with_reducible refine' z_mulL ?zl1 ?zl2 ?_); (case zl1 => omega); (case zl2 => omega))
  | ((with_reducible refine' z_mulR ?zl1 ?zl2 ?_); (case zl1 => omega); (case zl2 => omega))
  | ((with_reducible refine' z_divS ?zl1 ?zl2 ?_); (case zl1 => omega); (case zl2 => omega))
  | ((with_reducible refine' z_mulW ?zl1 ?zl2 ?zl3 ?zl4 ?_); (case zl1 => omega); (case zl2 => omega); (case zl3 => omega); (case zl4 => omega))
  | ((with_reducible refine' z_divW ?zl1 ?zl2 ?_); (case zl1 => omega); (case zl2 => omega)))
local macro_rules | `(tactic| walk_at "zz") => `(tactic| repeat (walk_at "z"))
local macro_rules | `(tactic| walk_at "z") => `(tactic| with_reducible refine z_lstN ?_)
local macro_rules | `(tactic| walk_at "z") => `(tactic| with_reducible refine z_p6 ?_)
local macro_rules | `(tactic| walk_at "z") => `(tactic| with_reducible refine z_p12 ?_)
local macro_rules | `(tactic| walk_at "z") => `(tactic| with_reducible refine z_p13 ?_)
local macro_rules | `(tactic| walk_at "z") => `(tactic| with_reducible refine z_calln ?_)
local macro_rules | `(tactic| walk_at "z") => `(tactic| with_reducible refine z_xfS ?_)
local macro_rules | `(tactic| walk_at "z") => `(tactic| with_reducible refine z_lcS ?_)
local macro_rules | `(tactic| walk_at "z") => `(tactic| with_reducible refine z_lcRS ?_)
local macro_rules | `(tactic| walk_at "z") => `(tactic| with_reducible refine z_lcZS ?_)
local macro_rules | `(tactic| walk_at "z") => `(tactic| with_reducible refine z_foS ?_)
local macro_rules | `(tactic| walk_at "z") => `(tactic| with_reducible refine z_for1 ?_)
local macro_rules | `(tactic| walk_at "z") => `(tactic| with_reducible refine z_tsl ?_)
local macro_rules | `(tactic| walk_at "z") => `(tactic| with_reducible refine z_np ?_)
local macro_rules | `(tactic| walk_at "z") => `(tactic| with_reducible refine z_pt ?_)
local macro_rules | `(tactic| walk_at "z") => `(tactic| with_reducible refine z_pti ?_)
local macro_rules | `(tactic| walk_at "z") => `(tactic| with_reducible refine z_catI ?_)
local macro_rules | `(tactic| walk_at "z") => `(tactic| with_reducible refine z_isNI ?_)
local macro_rules | `(tactic| walk_at "z") => `(tactic| with_reducible refine z_isNN ?_)
local macro_rules | `(tactic| walk_at "z") => `(tactic| with_reducible refine z_notNI ?_)
local macro_rules | `(tactic| walk_at "z") => `(tactic| with_reducible refine z_notNN ?_)
local macro_rules | `(tactic| walk_at "z") => `(tactic| with_reducible refine z_gsub ?_)
local macro_rules | `(tactic| walk_at "z") => `(tactic| with_reducible refine z_isNb ?_)
local macro_rules | `(tactic| walk_at "z") => `(tactic| with_reducible refine z_notNb ?_)
local macro_rules | `(tactic| walk_at "z") => `(tactic| ((with_reducible refine' z_nlR ?zl1 ?_); (case zl1 => exact Nat.le_of_ble_eq_true rfl); intro p H' hp hs he))
local macro_rules | `(tactic| walk_at "z") => `(tactic| ((with_reducible refine' z_repR ?zl1 ?zl2 ?_); (case zl1 => omega); (case zl2 => omega)))
local macro_rules | `(tactic| walk_at "z") => `(tactic| ((with_reducible refine' z_repL ?zl1 ?zl2 ?_); (case zl1 => omega); (case zl2 => omega)))
local macro_rules | `(tactic| walk_at "z") => `(tactic| ((with_reducible refine' z_lenLst ?zl1 ?_); (case zl1 => walk_at "up")))
local macro_rules | `(tactic| walk_at "z") => `(tactic| ((with_reducible refine' z_cat ?zl1 ?zl2 ?zl3 ?_); (case zl1 => walk_at "up"); (case zl2 => walk_at "up"); (case zl3 => (simp only [List.length_map, List.length_cons, List.length_nil, List.length_append, List.length_replicate]; omega)); intro p H' hp hs he))
local macro_rules | `(tactic| walk_at "z") => `(tactic| with_reducible refine z_sfl ?_)
local macro_rules | `(tactic| walk_at "z") => `(tactic| with_reducible refine z_lcES ?_)
local macro_rules | `(tactic| walk_at "z") => `(tactic| with_reducible refine z_lcMS ?_)
local macro_rules | `(tactic| walk_at "z") => `(tactic| with_reducible refine z_foES ?_)
local macro_rules | `(tactic| walk_at "z") => `(tactic| with_reducible refine z_fo3S ?_)
local macro_rules | `(tactic| walk_at "z") => `(tactic| with_reducible refine z_sta ?_)
local macro_rules | `(tactic| walk_at "z") => `(tactic| with_reducible refine z_sta1 ?_)
local macro_rules | `(tactic| walk_at "z") => `(tactic| with_reducible refine z_lcTS ?_)
local macro_rules | `(tactic| walk_at "z") => `(tactic| with_reducible refine z_foTS ?_)
local macro_rules | `(tactic| walk_at "z") => `(tactic| with_reducible refine z_revTS ?_)
local macro_rules | `(tactic| walk_at "z") => `(tactic| with_reducible refine z_max2 ?_)
local macro_rules | `(tactic| walk_at "z") => `(tactic| ((with_reducible refine' z_fldt ?zc1 ?zc2 ?zl1 ?zl2 ?_); (case zc1 => exact Lw.cl_Ratio (by assumption)); (case zc2 => exact Lw.na_Ratio_top (by assumption)); (case zl1 => exact rfl); (case zl2 => walk_at "up")))
local macro_rules | `(tactic| walk_at "z") => `(tactic| ((with_reducible refine' z_fldb ?zc1 ?zc2 ?zl1 ?zl2 ?_); (case zc1 => exact Lw.cl_Ratio (by assumption)); (case zc2 => exact Lw.na_Ratio_bottom (by assumption)); (case zl1 => exact rfl); (case zl2 => walk_at "up")))
local macro_rules | `(tactic| walk_at "z") => `(tactic| ((with_reducible refine' u_mtF ?zl1 ?_); (case zl1 => walk_at "up")))
local macro_rules | `(tactic| walk_at "z") => `(tactic| ((with_reducible refine' z_ixLst ?zl1 ?zl2 ?_); (case zl1 => walk_at "up"); (case zl2 => exact rfl)))
local macro_rules | `(tactic| walk_at "z") => `(tactic| with_reducible refine z_for3 ?_)
local macro_rules | `(tactic| walk_at "z") => `(tactic| with_reducible refine z_tbits ?_)
local macro_rules | `(tactic| walk_at "z") => `(tactic| with_reducible refine z_tbi ?_)
local macro_rules | `(tactic| walk_at "z") => `(tactic| ((with_reducible refine' z_div2S ?zl1 ?zl2 ?_); (case zl1 => omega); (case zl2 => omega)))
local macro_rules | `(tactic| walk_at "z") => `(tactic| with_reducible refine u_who ?_)
local macro_rules | `(tactic| walk_at "z") => `(tactic| with_reducible refine z_asg2 ?_)
local macro_rules | `(tactic| walk_at "z") => `(tactic| ((with_reducible refine' u_cell ?zl1 ?zl2 ?_); (case zl1 => walk_at "up"); (case zl2 => omega); intro c))
local macro_rules | `(tactic| walk_at "z") => `(tactic| ((with_reducible refine' u_mod ?zl1 ?_); (case zl1 => omega)))
theorem same02k {H H1 H2 : Hp} (h : Same H1 H2) (e : Same H H1) : Same H H2 := e.trans h
local macro_rules | `(tactic| walk_at "sm") => `(tactic| first
  | assumption
  | exact fun _ _ h => h
  | (refine' same02k (by assumption) ?zsm; case zsm => walk_at "sm"))
local macro_rules | `(tactic| walk_at "up") => `(tactic| first
  | assumption
  | (with_reducible refine' IsR.mono (by assumption) ?zup; case zup => walk_at "up")
  | (with_reducible refine' Fr.mono (by assumption) ?zup; case zup => walk_at "up")
  | (with_reducible refine' Same.at (by assumption) ?zup; case zup => walk_at "up")
  | (with_reducible refine' Facs.mono (by assumption) ?zup; case zup => walk_at "up")
  | (with_reducible refine' IsPool.mono (by assumption) ?zup; case zup => walk_at "up")
  | (with_reducible refine' RowsAt.mono (by assumption) ?zup; case zup => walk_at "up")
  | (with_reducible refine' FacL.mono (by assumption) ?zup; case zup => walk_at "up")
  | fail)
section
variable {P : Program} {w : World} {K : Frag} {mg : Str → Option Value} {base : Heap}
theorem ok_law_due (L : Lw K mg) {fd : FuncData} (F : FunD K "_law_due" "_law_due" (defArgs s_law_due) (defBody s_law_due) (defScope s_law_due) (df_law_due.dvs K) (df_law_due.kws K) (He.fAd K ("_law_due", none)) fd) : FnOk P w K mg base (L2N.CX P w) 1 (He.fAd K ("_law_due", none)) fd (["first", "second"] : List Str) (sp2 fs_du) := by
  refine FunD.ok F sc_law_due len2 (fun cdv A outer s H vs Q E hr h => ?_)
  obtain ⟨a, b, rfl, h⟩ := h
  refine ⟨_, (pss_cons (ps_for (passes_of rfl) rfl (pi_listK (K := K) rfl (pe_lst (pa_cons (pv 0) (pa_cons (pv 1) pa_nil)))) (pg_name (i := 2) sc_law_due.nd rfl (by first | exact Or.inl rfl | exact Or.inr rfl)) (pss_cons (ps_if (pt_cmpR o_gt (pe_callB (callK rLen1 (K := K) rfl o_len) (by rfl) L.f_len (by decide +kernel) (pa_cons (pv 2) pa_nil)) pe_int (nomark _)) (pss_one (ps_ret (pe_tup (pa_cons pe_int (pa_cons (pe_callB (callK rLen1 (K := K) rfl o_len) (by rfl) L.f_len (by decide +kernel) (pa_cons (pv 2) pa_nil)) pa_nil))))) pss_nil)
    (pss_one (ps_for (passes_of rfl) rfl (pi_listK (K := K) rfl (pv 2)) (pg_name (i := 3) sc_law_due.nd rfl (by first | exact Or.inl rfl | exact Or.inr rfl)) (pss_cons (ps_if (pt_cmpR o_lt (pe_ix (ix_seqK (K := K) rfl) (pv 3) pe_int (fun _ _ => rfl)) pe_int (nomark _)) (pss_one (ps_ret (pe_tup (pa_cons pe_int (pa_cons (pv 3) pa_nil))))) pss_nil)
    (pss_one (ps_if (PW.pt (pw_or (pt_cmpR o_lt (pe_ix (ix_seqK (K := K) rfl) (pv 3) pe_int (fun _ _ => rfl)) pe_int (nomark _)) (pw_or1 (pt_cmpR o_gt (pe_ix (ix_seqK (K := K) rfl) (pv 3) pe_int (fun _ _ => rfl)) pe_int (nomark _))))) (pss_one (ps_ret (pe_tup (pa_cons pe_int (pa_cons (pe_ix (ix_seqK (K := K) rfl) (pv 3) pe_int (fun _ _ => rfl)) pa_nil))))) pss_nil)))))))
    (pss_one (ps_ret (pe_tup (pa_cons pe_int (pa_cons (pe_callB (callK rSum (K := K) rfl (cr_sum rfl)) (by rfl) L.f_sum (by decide +kernel) (pa_cons (pe_lc (own := [("row", 3)]) (g := (gName 3)) (tt := tYes) rfl sc_law_due.nd (pi_listK (K := K) rfl (pe_op o_cat (pv 0) (pv 1))) (blkOk_by (N := ["first", "second", "rows", "row"]) (sc := defScope s_law_due) (by decide +kernel)) (fun _ _ _ _ _ => pg_name (i := 3) sc_law_due.nd rfl (Or.inl rfl)) (fun _ _ _ _ _ => pts_nil) (fun _ _ _ _ _ => (pe_ix (ix_seqK (K := K) rfl) (pv 3) pe_int (fun _ _ => rfl)))) pa_nil)) pa_nil)))))), ?_⟩
  rw [show L2.start (["first", "second", "rows", "row"] : List Str) [a, b] = [some a, some b, none, none] from rfl]
  obtain ⟨l, m, rs, ss, o, rfl, rfl, hR, hS, n1, n2, ho, q⟩ := h
  try dsimp only [List.set]
  walk_at "zz"
  rename_i ps Hs hps s1 hs1
  have pk : ∀ (k : Nat) (x : V), [V.ref l, V.ref m][k]? = some x → ∃ q t, [rs, ss][k]? = some t ∧ x = V.ref q ∧ RowsAt Hs q t := by
    intro k x e
    rcases k with _ | _ | k
    · exact ⟨l, rs, rfl, (Option.some.inj e).symm, hR.mono s1⟩
    · exact ⟨m, ss, rfl, (Option.some.inj e).symm, hS.mono s1⟩
    · cases e
  refine z_foV hs1 (fun k σ' H' => ∃ (x2 x3 : Option V), σ' = [some (.ref l), some (.ref m), x2, x3] ∧ Hs = H' ∧ ∀ j u, j < k → [rs, ss][j]? = some u → outS u = none) ⟨_, _, rfl, rfl, fun j u hj => absurd hj (by omega)⟩ (fun k σ' H' z => by obtain ⟨_, _, _, rfl, _⟩ := z; exact hs1) ?_ ?_
  · rintro k x σ' H' ex ⟨x2, x3, rfl, rfl, inv⟩
    obtain ⟨a, t, et, rfl, hq⟩ := pk k x ex
    obtain ⟨ys, g1, g2, g3⟩ := id hq
    have tt := pick2 et
    have nt : t.length ≤ 20 := by rcases tt with rfl | rfl <;> omega
    try dsimp only [List.set]
    walk_at "zz"
    refine z_d2 (fun c0 => ?_) (fun c0 => ?_)
    · try dsimp only [List.set]
      walk_at "zz"
      obtain rfl := out_at ho inv et (outS_sz (by omega))
      refine q _ _ (by walk_at "sm") ?_
      rw [← g2]
      assumption
    try dsimp only [List.set]
    walk_at "zz"
    have l8 : t.length ≤ 8 := by omega
    refine z_foV g1 (fun i σ' H2 => ∃ (x3 : Option V), σ' = [some (.ref l), some (.ref m), some (.ref a), x3] ∧ Hs = H2 ∧ ∀ j r, j < i → t[j]? = some r → okRow r) ⟨_, rfl, rfl, fun j r hj => absurd hj (by omega)⟩ (fun i σ' H2 z => by obtain ⟨_, _, rfl, _⟩ := z; exact g1) ?_ ?_
    · rintro i y σ' H2 ey ⟨x6, rfl, rfl, ok⟩
      obtain ⟨c, r, er', rfl, hc⟩ := g3 i y ey
      have hout : ∀ {o'}, ¬ okRow r → outR r = o' → o = o' := fun {o'} h e => by
        subst e
        exact out_at ho inv et (outS_bad l8 ⟨er', h, ok⟩)
      try dsimp only [List.set]
      walk_at "zz"
      refine z_d2 (fun c1 => ?_) (fun c1 => ?_)
      · try dsimp only [List.set]
        walk_at "zz"
        obtain rfl := hout (fun z => by have := z.1; omega) (if_pos c1)
        exact q _ _ (by walk_at "sm") ⟨c, by assumption, by walk_at "up"⟩
      try dsimp only [List.set]
      walk_at "zz"
      refine z_d2 (fun c2 => ?_) (fun c2 => ?_)
      · try dsimp only [List.set]
        walk_at "zz"
        obtain rfl := hout (fun z => by have := z.2.1; omega) (if_neg c1)
        exact q _ _ (by walk_at "sm") (by assumption)
      try dsimp only [List.set]
      walk_at "zz"
      refine z_d2 (fun c3 => ?_) (fun c3 => ?_)
      · try dsimp only [List.set]
        walk_at "zz"
        obtain rfl := hout (fun z => by have := z.2.2; omega) (if_neg c1)
        exact q _ _ (by walk_at "sm") (by assumption)
      · try dsimp only [List.set]
        walk_at "zz"
        refine ⟨_, rfl, rfl, fun j r2 hj h2 => ?_⟩
        by_cases e : j = i
        · subst e
          rw [er'] at h2
          obtain rfl := Option.some.inj h2
          exact ⟨by omega, by omega, by omega⟩
        · exact ok j r2 (by omega) h2
    · rintro σ' H2 ⟨x6, rfl, rfl, ok⟩
      try dsimp only [List.set]
      walk_at "zz"
      refine ⟨_, _, rfl, rfl, fun j u hj hu => ?_⟩
      by_cases e : j = k
      · subst e
        rw [et] at hu
        obtain rfl := Option.some.inj hu
        refine outS_ok l8 fun r hr => ?_
        obtain ⟨i, hi, e⟩ := List.mem_iff_getElem.mp hr
        exact ok i r (by omega) (by rw [List.getElem?_eq_getElem hi, e])
      · exact inv j u (by omega) hu
  rintro σ' H' ⟨x2, x3, rfl, rfl, inv⟩
  obtain ⟨w, rfl⟩ := out_hv ho (inv 0 rs (by show 0 < 2; omega) rfl) (inv 1 ss (by show 1 < 2; omega) rfl)
  have hR1 := hR.mono s1
  have hS1 := hS.mono s1
  try dsimp only [List.set]
  walk_at "zz"
  refine z_catR hR1 hS1 (by omega) (by omega) (fun c H4 h4 s4 hC => ?_)
  try dsimp only [List.set]
  walk_at "zz"
  obtain ⟨xs, x1, x2, x3⟩ := id hC
  refine z_lcVF (f := fun k => V.int (((rs ++ ss).map (·.2.2)).getD k 0)) x1 (by rw [x2, List.length_append]; omega) (fun k x H5 N5 hx s5 cc => ?_) (fun L5 H5 g5 s5 h5 => ?_)
  · obtain ⟨c, r, er, rfl, ec⟩ := x3 k x hx
    have ec := s5 _ _ ec
    have ev : ((rs ++ ss).map (·.2.2)).getD k 0 = r.2.2 := by
      rw [List.getD_eq_getElem?_getD, List.getElem?_map, er]
      rfl
    refine ⟨rfl, ?_⟩
    try dsimp only [List.set]
    walk_at "zz"
    rw [← ev]
    exact cc _ (fun _ _ h => h)
  have e5 : H5 L5 = some (.lst (((rs ++ ss).map (·.2.2)).map V.int)) := by
    rw [h5]
    refine congrArg some (congrArg HO.lst ?_)
    refine List.ext_getElem (by simp [x2]) (fun i h1 h2 => ?_)
    have hi : i < (rs ++ ss).length := by simpa using h2
    rw [List.getElem_map, List.getElem_range, List.getElem_map, List.getD_eq_getElem?_getD, List.getElem?_eq_getElem (by simpa using hi)]
    rfl
  try dsimp only [List.set]
  walk_at "zz"
  refine z_sumI e5 ?_
  rw [esum_sum, esum_cat]
  try dsimp only [List.set]
  walk_at "zz"
  exact q _ _ (by walk_at "sm") (by assumption)
theorem c_law_due (L : Lw K mg) : Cal P w K mg base 1 "_law_due" (sp2 fs_du) [] := by
  obtain ⟨fd, F⟩ := L.d_law_due
  exact ⟨⟨_, fd, ["first", "second"], [], ok_law_due L F, L.g_law_due, F.kp, F.bindsN (fun _ _ _ _ _ _ us hl => match us, hl with | [_, _], _ => rfl), .nil⟩⟩
theorem ok_law_product_error (L : Lw K mg) {fd : FuncData} (F : FunD K "_law_product_error" "_law_product_error" (defArgs s_law_product_error) (defBody s_law_product_error) (defScope s_law_product_error) (df_law_product_error.dvs K) (df_law_product_error.kws K) (He.fAd K ("_law_product_error", none)) fd) : FnOk P w K mg base (L2N.CX P w) 6 (He.fAd K ("_law_product_error", none)) fd (["first", "second"] : List Str) (sp2 fs_pe) := by
  refine FunD.ok F sc_law_product_error len2 (fun cdv A outer s H vs Q E hr h => ?_)
  obtain ⟨a, b, rfl, h⟩ := h
  refine ⟨_, (pss_cons (ps_set (i := 2) sc_law_product_error.nd rfl (by first | exact Or.inl rfl | exact Or.inr rfl) (pe_c (c_law_due (K := K) L) hr (by decide) (L2N.takes_of rfl rfl rfl rfl) (pa_cons (pv 0) (pa_cons (pv 1) pa_nil))))
    (pss_cons (ps_try_cls rfl rfl sc_law_product_error.nd (L2N.takes_of rfl rfl rfl rfl)
    (fun W pn xe tk po => (pss_one (ps_expr (pe_c (c_compare_products (K := K) L) hr (by decide) tk (pa_cons (pe_c (c_law_handed (K := K) L) hr (by decide) tk (pa_cons (pv 0) pa_nil)) (pa_cons (pe_c (c_law_handed (K := K) L) hr (by decide) tk (pa_cons (pv 1) pa_nil)) pa_nil))))))
    (.mk 3 ⟨rfl, by decide, Or.inl L.g_BadSize⟩ rfl rfl (fun a oe cls dd pn hz hf => (pss_cons (ps_if (PW.pt (pw_or (pt_val (pe_callB (call_isEx L.ec_BadSize (L2N.Zn.zc hz) hf) (by rfl) L.f_isinstance (by decide +kernel) (pa_cons (pv 3) (pa_cons (pe_cls L.g_Negative) pa_nil)))) (pw_or (pt_val (pe_callB (call_isEx L.ec_BadSize (L2N.Zn.zc hz) hf) (by rfl) L.f_isinstance (by decide +kernel) (pa_cons (pv 3) (pa_cons (pe_cls L.g_OutOfBounds) pa_nil)))) (pw_or1 (pt_val (pe_callB (call_isEx L.ec_BadSize (L2N.Zn.zc hz) hf) (by rfl) L.f_isinstance (by decide +kernel) (pa_cons (pv 3) (pa_cons (pe_cls L.g_TooHeavy) pa_nil)))))))) (pss_one (ps_ret pe_bl)) pss_nil)
    (pss_one (ps_ret (pe_and (pe_cmpR op_eq (pe_ix (ix_seqK (K := K) rfl) (pv 2) pe_int (fun _ _ => rfl)) pe_int (nomark _)) (pe_and (pe_callB (call_isEx L.ec_BadSize (L2N.Zn.zc hz) hf) (by rfl) L.f_isinstance (by decide +kernel) (pa_cons (pv 3) (pa_cons (pe_cls L.g_NoughtError) pa_nil))) (pe_one (pe_ch (ch_law_whole (K := K) L) (room_suite hr _) (by decide) (hot_suite hz hf) (pa_cons (pe_xf L.xf_BadSize L.na_BadSize_size (L2N.Zn.zc hz) hf (pv 3)) (pa_cons (pe_ix (ix_seqK (K := K) rfl) (pv 2) pe_int (fun _ _ => rfl)) pa_nil))))))))))
    (.mk 3 ⟨rfl, by decide, Or.inl L.g_Negative⟩ rfl rfl (fun a oe cls dd pn hz hf => (pss_cons (ps_if (PW.pt (pw_or (pt_cmpR op_ne (pe_ix (ix_seqK (K := K) rfl) (pv 2) pe_int (fun _ _ => rfl)) pe_int (nomark _)) (pw_or (pt_val (pe_callB (call_isEx L.ec_Negative (L2N.Zn.zc hz) hf) (by rfl) L.f_isinstance (by decide +kernel) (pa_cons (pv 3) (pa_cons (pe_cls L.g_OutOfBounds) pa_nil)))) (pw_or1 (pt_val (pe_callB (call_isEx L.ec_Negative (L2N.Zn.zc hz) hf) (by rfl) L.f_isinstance (by decide +kernel) (pa_cons (pv 3) (pa_cons (pe_cls L.g_TooHeavy) pa_nil)))))))) (pss_one (ps_ret pe_bl)) pss_nil)
    (pss_one (ps_ret (pe_and (pe_callB (call_isEx L.ec_Negative (L2N.Zn.zc hz) hf) (by rfl) L.f_isinstance (by decide +kernel) (pa_cons (pv 3) (pa_cons (pe_cls L.g_NoughtError) pa_nil))) (pe_one (pe_ch (ch_law_is (K := K) L) (room_suite hr _) (by decide) (hot_suite hz hf) (pa_cons (pe_xf L.xf_Negative L.na_Negative_ratio (L2N.Zn.zc hz) hf (pv 3)) (pa_cons (pe_ix (ix_seqK (K := K) rfl) (pe_ix (ix_seqK (K := K) rfl) (pv 2) pe_int (fun _ _ => rfl)) pe_int (fun _ _ => rfl)) (pa_cons (pe_ix (ix_seqK (K := K) rfl) (pe_ix (ix_seqK (K := K) rfl) (pv 2) pe_int (fun _ _ => rfl)) pe_int (fun _ _ => rfl)) pa_nil))))))))))
    (.mk 3 ⟨rfl, by decide, Or.inl L.g_OutOfBounds⟩ rfl rfl (fun a oe cls dd pn hz hf => (pss_cons (ps_if (PW.pt (pw_or (pt_cmpR op_ne (pe_ix (ix_seqK (K := K) rfl) (pv 2) pe_int (fun _ _ => rfl)) pe_int (nomark _)) (pw_or1 (pt_val (pe_callB (call_isEx L.ec_OutOfBounds (L2N.Zn.zc hz) hf) (by rfl) L.f_isinstance (by decide +kernel) (pa_cons (pv 3) (pa_cons (pe_cls L.g_TooHeavy) pa_nil))))))) (pss_one (ps_ret pe_bl)) pss_nil)
    (pss_one (ps_ret (pe_and (pe_callB (call_isEx L.ec_OutOfBounds (L2N.Zn.zc hz) hf) (by rfl) L.f_isinstance (by decide +kernel) (pa_cons (pv 3) (pa_cons (pe_cls L.g_NoughtError) pa_nil))) (pe_one (pe_ch (ch_law_whole (K := K) L) (room_suite hr _) (by decide) (hot_suite hz hf) (pa_cons (pe_xf L.xf_OutOfBounds L.na_OutOfBounds_value (L2N.Zn.zc hz) hf (pv 3)) (pa_cons (pe_ix (ix_seqK (K := K) rfl) (pv 2) pe_int (fun _ _ => rfl)) pa_nil)))))))))
    (.mk 3 ⟨rfl, by decide, Or.inl L.g_TooHeavy⟩ rfl rfl (fun a oe cls dd pn hz hf => (pss_cons (ps_if (PW.pt (pw_or (pt_cmpR op_ne (pe_ix (ix_seqK (K := K) rfl) (pv 2) pe_int (fun _ _ => rfl)) pe_int (nomark _)) (pw_or1 (pt_cmpR o_le (pe_ix (ix_seqK (K := K) rfl) (pv 2) pe_int (fun _ _ => rfl)) pe_int (nomark _))))) (pss_one (ps_ret pe_bl)) pss_nil)
    (pss_one (ps_ret (pe_and (pe_callB (call_isEx L.ec_TooHeavy (L2N.Zn.zc hz) hf) (by rfl) L.f_isinstance (by decide +kernel) (pa_cons (pv 3) (pa_cons (pe_cls L.g_NoughtError) pa_nil))) (pe_one (pe_ch (ch_law_whole (K := K) L) (room_suite hr _) (by decide) (hot_suite hz hf) (pa_cons (pe_xf L.xf_TooHeavy L.na_TooHeavy_work (L2N.Zn.zc hz) hf (pv 3)) (pa_cons (pe_ix (ix_seqK (K := K) rfl) (pv 2) pe_int (fun _ _ => rfl)) pa_nil)))))))))
    .nil)))))
    (pss_one (ps_ret pe_bl)))), ?_⟩
  rw [show L2.start (["first", "second", "due", "e"] : List Str) [a, b] = [some a, some b, none, none] from rfl]
  obtain ⟨l, m, rs, ss, o, rfl, rfl, hR, hS, n1, n2, f, ho, q⟩ := h
  try dsimp only [List.set]
  walk_at "zz"
  refine ⟨_, _, rfl, l, m, rs, ss, o, rfl, rfl, hR, hS, n1, n2, ho, fun du H1 s1 hdu => ?_⟩
  try dsimp only [List.set]
  walk_at "zz"
  refine u_hd (hR.mono s1) (by omega) (fun r hr => f r (List.mem_append_left _ hr)) (fun one H2 g2 s2 h2 => ?_)
  try dsimp only [List.set]
  walk_at "zz"
  refine u_hd ((hS.mono s1).mono s2) (by omega) (fun r hr => f r (List.mem_append_right _ hr)) (fun two H3 g3 s3 h3 => ?_)
  try dsimp only [List.set]
  walk_at "zz"
  refine u_cpE (h2.mono s3).facs h3.facs f ho (fun d H4 s4 hd => ?_)
  have f2 := f
  match o, ho, hdu, hd with
  | .sz n, ho, hdu, hd =>
    have hd4 : H4 du = some (.tup [.int 1, .int n]) := s4 _ _ (s3 _ _ (s2 _ _ hdu))
    have hd : H4 d = some (.xd [("size", .int n)]) := hd
    refine z_cls (z_as L.xm_BadSize_BadSize (fun a ha => ?_))
    try dsimp only [List.set]
    walk_at "zz"
    refine z_isX hd L.kt_BadSize_Negative ?_
    try dsimp only [List.set]
    walk_at "zz"
    refine z_isX hd L.kt_BadSize_OutOfBounds ?_
    try dsimp only [List.set]
    walk_at "zz"
    refine z_isX hd L.kt_BadSize_TooHeavy ?_
    try dsimp only [List.set]
    walk_at "zz"
    refine z_dT rfl ?_
    try dsimp only [List.set]
    walk_at "zz"
    refine z_isX hd L.kt_BadSize_NoughtError ?_
    try dsimp only [List.set]
    walk_at "zz"
    refine z_xf hd lkA ?_
    try dsimp only [List.set]
    walk_at "zz"
    rw [decide_eq_true rfl]
    try dsimp only [List.set]
    walk_at "zz"
    exact q _ (by walk_at "sm")
  | .ng r, ho, hdu, hd =>
    obtain ⟨pr, hd1, hd2⟩ := hdu
    have hd4 : H4 du = some (.tup [.int 2, .ref pr]) := s4 _ _ (s3 _ _ (s2 _ _ hd1))
    have hd5 : H4 pr = some (.tup [.int r.1, .int r.2.1, .int r.2.2]) := s4 _ _ (s3 _ _ (s2 _ _ hd2))
    obtain ⟨pp, hF, hd⟩ := hd
    obtain ⟨w0, w1, w2⟩ := f r (outOf_ng ho)
    refine z_cls (z_asN L.xm_Negative_BadSize (z_cls (z_as L.xm_Negative_Negative (fun a ha => ?_))))
    try dsimp only [List.set]
    walk_at "zz"
    refine z_dT rfl ?_
    try dsimp only [List.set]
    walk_at "zz"
    refine z_isX hd L.kt_Negative_OutOfBounds ?_
    try dsimp only [List.set]
    walk_at "zz"
    refine z_isX hd L.kt_Negative_TooHeavy ?_
    try dsimp only [List.set]
    walk_at "zz"
    refine z_isX hd L.kt_Negative_NoughtError ?_
    try dsimp only [List.set]
    walk_at "zz"
    refine z_xf hd lkA ?_
    try dsimp only [List.set]
    walk_at "zz"
    refine u_lis hF w0 w2 (by decide) ?_
    try dsimp only [List.set]
    walk_at "zz"
    exact q _ (by walk_at "sm")
  | .oob e, ho, hdu, hd =>
    have hd4 : H4 du = some (.tup [.int 3, .int e]) := s4 _ _ (s3 _ _ (s2 _ _ hdu))
    have hd : H4 d = some (.xd [("value", .int e)]) := hd
    refine z_cls (z_asN L.xm_OutOfBounds_BadSize (z_cls (z_asN L.xm_OutOfBounds_Negative (z_cls (z_as L.xm_OutOfBounds_OutOfBounds (fun a ha => ?_))))))
    try dsimp only [List.set]
    walk_at "zz"
    refine z_dT rfl ?_
    try dsimp only [List.set]
    walk_at "zz"
    refine z_isX hd L.kt_OutOfBounds_TooHeavy ?_
    try dsimp only [List.set]
    walk_at "zz"
    refine z_isX hd L.kt_OutOfBounds_NoughtError ?_
    try dsimp only [List.set]
    walk_at "zz"
    refine z_xf hd lkA ?_
    try dsimp only [List.set]
    walk_at "zz"
    rw [decide_eq_true rfl]
    try dsimp only [List.set]
    walk_at "zz"
    exact q _ (by walk_at "sm")
  | .hv n, ho, hdu, hd =>
    have hd4 : H4 du = some (.tup [.int 4, .int n]) := s4 _ _ (s3 _ _ (s2 _ _ hdu))
    have hd : H4 d = some (.xd [("work", .int n)]) := hd
    have hn := outOf_hv ho
    refine z_cls (z_asN L.xm_TooHeavy_BadSize (z_cls (z_asN L.xm_TooHeavy_Negative (z_cls (z_asN L.xm_TooHeavy_OutOfBounds (z_cls (z_as L.xm_TooHeavy_TooHeavy (fun a ha => ?_))))))))
    try dsimp only [List.set]
    walk_at "zz"
    refine z_dT rfl ?_
    try dsimp only [List.set]
    walk_at "zz"
    refine z_dF (by omega) ?_
    try dsimp only [List.set]
    walk_at "zz"
    refine z_isX hd L.kt_TooHeavy_NoughtError ?_
    try dsimp only [List.set]
    walk_at "zz"
    refine z_xf hd lkA ?_
    try dsimp only [List.set]
    walk_at "zz"
    rw [decide_eq_true rfl]
    try dsimp only [List.set]
    walk_at "zz"
    exact q _ (by walk_at "sm")
theorem c_law_product_error (L : Lw K mg) : Cal P w K mg base 6 "_law_product_error" (sp2 fs_pe) [] := by
  obtain ⟨fd, F⟩ := L.d_law_product_error
  exact ⟨⟨_, fd, ["first", "second"], [], ok_law_product_error L F, L.g_law_product_error, F.kp, F.bindsN (fun _ _ _ _ _ _ us hl => match us, hl with | [_, _], _ => rfl), .nil⟩⟩
end
end T
set_option maxHeartbeats 4000000
namespace T
open PySem PySem.Spec PyProof.Rows L2 Z
theorem RowsAt.take {H H' : Hp} {a c : Addr} {rs : List PQE} {n : Nat} (h1 : RowsAt H a rs) (s : Same H H') (hc : ∀ xs, H a = some (.lst xs) → H' c = some (.lst (xs.take n))) : RowsAt H' c (rs.take n) := by
  obtain ⟨xs, a1, a2, a3⟩ := h1
  refine ⟨xs.take n, hc xs a1, by rw [List.length_take, List.length_take, a2], fun k x e => ?_⟩
  rw [List.getElem?_take] at e
  split at e
  · rename_i hk
    obtain ⟨c, r, e1, e2, e3⟩ := a3 k x e
    exact ⟨c, r, by rw [List.getElem?_take, if_pos hk]; exact e1, e2, s _ _ e3⟩
  · cases e
theorem RowsAt.drop {H H' : Hp} {a c : Addr} {rs : List PQE} {n : Nat} (h1 : RowsAt H a rs) (s : Same H H') (hc : ∀ xs, H a = some (.lst xs) → H' c = some (.lst (xs.drop n))) : RowsAt H' c (rs.drop n) := by
  obtain ⟨xs, a1, a2, a3⟩ := h1
  refine ⟨xs.drop n, hc xs a1, by rw [List.length_drop, List.length_drop, a2], fun k x e => ?_⟩
  rw [List.getElem?_drop] at e
  obtain ⟨c, r, e1, e2, e3⟩ := a3 _ x e
  exact ⟨c, r, by rw [List.getElem?_drop]; exact e1, e2, s _ _ e3⟩
theorem z_slHi {K : Frag} {H : Hp} {Q : VK} {a : Addr} {rs : List PQE} {i : Int} (h : RowsAt H a rs) (i0 : 0 ≤ i) (k : ∀ p H', H p = none → Same H H' → RowsAt H' p (rs.take i.toNat) → Q (.ref p) H') : rSlL K (.ref a) none (some i) H Q := by
  obtain ⟨xs, a1, a2, a3⟩ := id h
  obtain ⟨n, rfl⟩ := Int.eq_ofNat_of_zero_le i0
  refine z_sll a1 (fun p H' hp s e => k p H' hp s (h.take s fun us hu => ?_))
  rw [a1] at hu
  cases hu
  rw [e, cut_hi]
  rfl
theorem z_slLo {K : Frag} {H : Hp} {Q : VK} {a : Addr} {rs : List PQE} {i : Int} (h : RowsAt H a rs) (i0 : 0 ≤ i) (k : ∀ p H', H p = none → Same H H' → RowsAt H' p (rs.drop i.toNat) → Q (.ref p) H') : rSlL K (.ref a) (some i) none H Q := by
  obtain ⟨xs, a1, a2, a3⟩ := id h
  obtain ⟨n, rfl⟩ := Int.eq_ofNat_of_zero_le i0
  refine z_sll a1 (fun p H' hp s e => k p H' hp s (h.drop s fun us hu => ?_))
  rw [a1] at hu
  cases hu
  rw [e, cut_lo]
  rfl
theorem RowsAt.one {H : Hp} {l c : Addr} {p q e : Int} (h : H l = some (.lst [.ref c])) (hc : H c = some (.tup [.int p, .int q, .int e])) : RowsAt H l [(p, q, e)] := ⟨_, h, rfl, fun k x ex => by
  rcases k with _ | k
  · cases ex
    exact ⟨c, (p, q, e), rfl, rfl, hc⟩
  · cases ex⟩
theorem RowsAt.two {H : Hp} {l c d : Addr} {p q e p' q' e' : Int} (h : H l = some (.lst [.ref c, .ref d])) (hc : H c = some (.tup [.int p, .int q, .int e])) (hd : H d = some (.tup [.int p', .int q', .int e'])) : RowsAt H l [(p, q, e), (p', q', e')] := ⟨_, h, rfl, fun k x ex => by
  rcases k with _ | _ | k
  · cases ex
    exact ⟨c, (p, q, e), rfl, rfl, hc⟩
  · cases ex
    exact ⟨d, (p', q', e'), rfl, rfl, hd⟩
  · cases ex⟩
theorem b20 {x : Int} (h0 : -1000 ≤ x) (h : x ≤ 100000) : Bits 20 x := Bits.small (n := 20) (by show -(1048576 : Int) < x; omega) (by show x < (1048576 : Int); omega)
theorem Fine.one {p q e : Int} (p0 : 0 ≤ p) (p1 : p ≤ 100000) (q0 : 1 ≤ q) (q1 : q ≤ 100000) (e0 : 0 ≤ e) (e1 : e ≤ 5000) : Fine [(p, q, e)] := fun r h => by
  obtain rfl := List.mem_singleton.mp h
  exact ⟨⟨show 0 < q by omega, b20 (show -1000 ≤ p by omega) p1, b20 (show -1000 ≤ q by omega) q1⟩, p0, e0, e1⟩
theorem Fine.take {rs : List PQE} (h : Fine rs) (n : Nat) : Fine (rs.take n) := fun r hr => h r (List.mem_of_mem_take hr)
theorem Fine.drop {rs : List PQE} (h : Fine rs) (n : Nat) : Fine (rs.drop n) := fun r hr => h r (List.mem_of_mem_drop hr)
/-- rows as drawn -/
def Small (rs : List PQE) : Prop := rs.length ≤ 5 ∧ (∀ r, r ∈ rs → 0 ≤ r.1 ∧ r.1 ≤ 30 ∧ 1 ≤ r.2.1 ∧ r.2.1 ≤ 12 ∧ 0 ≤ r.2.2 ∧ r.2.2 ≤ 780) ∧ esum rs ≤ 1560
theorem Small.fine {rs : List PQE} (h : Small rs) : Fine rs := fun r hr => by
  obtain ⟨h1, h2, h3, h4, h5, h6⟩ := h.2.1 r hr
  exact ⟨⟨by omega, b20 (by omega) (by omega), b20 (by omega) (by omega)⟩, h1, h5, by omega⟩
theorem Small.take {rs : List PQE} (h : Small rs) (n : Nat) : Small (rs.take n) := ⟨by
  have := h.1
  rw [List.length_take]
  omega, fun r hr => h.2.1 r (List.mem_of_mem_take hr), by
  have := (esum_take (l := rs) (fun r hr => (h.fine r hr).2) n).1
  have := h.2.2
  omega⟩
def fs_od : F2 := fun x y H Q _ => ∃ (p : Addr) (k : Int), x = .ref p ∧ y = .int k ∧ IsPool H p ∧ 0 ≤ k ∧ ∀ c (r : PQE) H', Same H H' → H' c = some (.tup [.int r.1, .int r.2.1, .int r.2.2]) → FitR r → ¬ okRow r → Q (.ref c) H'
def fs_pu : F3 := fun x y z H Q _ => ∃ (l c : Addr) (k : Int) (rs : List PQE) (r : PQE), x = .ref l ∧ y = .int k ∧ z = .ref c ∧ RowsAt H l rs ∧ rs.length ≤ 20 ∧ H c = some (.tup [.int r.1, .int r.2.1, .int r.2.2]) ∧ ∀ n D H', Same H H' → RowsAt H' D (rs.take n ++ [r] ++ rs.drop n) → Q (.ref D) H'
def fs_ro : F3 := fun x y z H Q _ => ∃ (p : Addr) (k s : Int), x = .ref p ∧ y = .int k ∧ z = .int s ∧ IsPool H p ∧ 0 ≤ k ∧ ∀ rs D H', Same H H' → RowsAt H' D rs → Small rs → Q (.ref D) H'
def fs_tu : F3 := fun x y z H Q _ => ∃ (l : Addr) (kd yy : Int) (rs : List PQE), x = .ref l ∧ y = .int kd ∧ z = .int yy ∧ RowsAt H l rs ∧ Small rs ∧ 1 ≤ kd ∧ kd ≤ 5 ∧ 1 ≤ yy ∧ yy ≤ 9 ∧ (kd ≤ 2 → rs.length ≤ 4) ∧
  ∀ ss D H', Same H H' → RowsAt H' D ss → Fine ss → ss.length ≤ 8 → esum ss ≤ 3200 → Q (.ref D) H'
local macro_rules | `(tactic| walk_at "up") => `(tactic| first
  | assumption
  | (refine' IsR.mono (by assumption) ?zup; case zup => walk_at "up")
  | (refine' IsE.mono (by assumption) ?zup; case zup => walk_at "up")
  | (refine' Same.at (by assumption) ?zup; case zup => walk_at "up")
  | (refine' SqL.of ?zup; case zup => walk_at "up")
  | (refine' L2.Same.seq (by assumption) ?zup; case zup => walk_at "up"))
local macro_rules | `(tactic| walk_at "z") => `(tactic| first
  | ((with_reducible refine' z_var ?zvh ?_); (case zvh => exact rfl))
  | with_reducible refine z_c ?_
  | with_reducible refine z_cons ?_
  | with_reducible refine z_nil ?_
  | with_reducible refine z_op ?_
  | with_reducible refine z_nx ?_
  | with_reducible refine z_seq ?_
  | with_reducible refine z_asg ?_
  | with_reducible refine z_asgG ?_
  | with_reducible refine z_call ?_
  | with_reducible refine z_sq0 ?_
  | with_reducible refine z_sq1 ?_
  | with_reducible refine z_ifS ?_
  | with_reducible refine z_test ?_
  | with_reducible refine z_tb ?_
  | with_reducible refine z_bl ?_
  | with_reducible refine z_blI ?_
  | with_reducible refine z_ret ?_
  | with_reducible refine z_rt ?_
  | with_reducible refine z_T ?_
  | with_reducible refine z_F ?_
  | with_reducible refine z_add ?_
  | with_reducible refine z_sub ?_
  | with_reducible refine z_neg ?_
  | with_reducible refine z_un ?_
  | with_reducible refine z_eqI ?_
  | with_reducible refine z_neI ?_
  | with_reducible refine z_lt ?_
  | with_reducible refine z_le ?_
  | with_reducible refine z_gt ?_
  | with_reducible refine z_ge ?_
  | with_reducible refine z_not ?_
  | with_reducible refine z_and ?_
  | with_reducible refine z_or ?_
  | with_reducible refine z_andV ?_
  | with_reducible refine z_orV ?_
  | with_reducible refine z_notV ?_
  | with_reducible refine z_if ?_
  | with_reducible refine z_cb ?_
  | with_reducible refine z_int1 ?_
  | with_reducible refine z_intb ?_
  | with_reducible refine z_abs ?_
  | with_reducible refine z_gcd ?_
  | with_reducible refine z_isi_ii ?_
  | with_reducible refine z_isi_ib ?_
  | with_reducible refine z_next ?_
  | with_reducible refine z_drop ?_
  | with_reducible refine z_par ?_
  | with_reducible refine z_par2 ?_
  | with_reducible refine z_tupN ?_
  | with_reducible refine z_lstN ?_
  | ((with_reducible refine' z_nt ?zl1 ?_); (case zl1 => exact Nat.le_of_ble_eq_true rfl); intro p H' hp hs he)
  | ((with_reducible refine' z_gtup ?zl1 ?zl2 ?_); (case zl1 => walk_at "up"); (case zl2 => exact rfl))
  | with_reducible refine z_bk ?_
  | with_reducible refine z_ct ?_
  | with_reducible refine z_break ?_
  | with_reducible refine z_cont ?_
  | with_reducible refine z_retN ?_
  | with_reducible refine z_nn ?_
  | with_reducible refine z_mk ?_
  | with_reducible refine z_gn ?_
  | with_reducible refine z_gcons ?_
  | with_reducible refine z_gnil ?_
  | with_reducible refine z_mt ?_
  | with_reducible refine z_mko ?_
  | with_reducible refine z_for2 ?_
  | with_reducible refine z_ownI ?_
  | ((with_reducible refine' z_lenL ?zl1 ?_); (case zl1 => walk_at "up"))
  | ((with_reducible refine' z_ixT ?zl1 ?zl2 ?_); (case zl1 => walk_at "up"); (case zl2 => exact rfl))
  | ((with_reducible refine' z_mulL ?zl1 ?zl2 ?_); (case zl1 => omega); (case zl2 => omega))
  | ((with_reducible refine' z_mulR ?zl1 ?zl2 ?_); (case zl1 => omega); (case zl2 => omega))
  | ((with_reducible refine' z_divS ?zl1 ?zl2 ?_); (case zl1 => omega); (case zl2 => omega))
  | ((with_reducible refine' z_mulW ?zl1 ?zl2 ?zl3 ?zl4 ?_); (case zl1 => omega); (case zl2 => omega); (case zl3 => omega); (case zl4 => omega))
  | ((with_reducible refine' z_divW ?zl1 ?zl2 ?_); (case zl1 => omega); (case zl2 => omega)))
local macro_rules | `(tactic| walk_at "zz") => `(tactic| repeat (walk_at "z"))
local macro_rules | `(tactic| walk_at "z") => `(tactic| with_reducible refine z_lstN ?_)
local macro_rules | `(tactic| walk_at "z") => `(tactic| with_reducible refine z_p6 ?_)
local macro_rules | `(tactic| walk_at "z") => `(tactic| with_reducible refine z_p12 ?_)
local macro_rules | `(tactic| walk_at "z") => `(tactic| with_reducible refine z_p13 ?_)
local macro_rules | `(tactic| walk_at "z") => `(tactic| with_reducible refine z_calln ?_)
local macro_rules | `(tactic| walk_at "z") => `(tactic| with_reducible refine z_xfS ?_)
local macro_rules | `(tactic| walk_at "z") => `(tactic| with_reducible refine z_lcS ?_)
local macro_rules | `(tactic| walk_at "z") => `(tactic| with_reducible refine z_lcRS ?_)
local macro_rules | `(tactic| walk_at "z") => `(tactic| with_reducible refine z_lcZS ?_)
local macro_rules | `(tactic| walk_at "z") => `(tactic| with_reducible refine z_foS ?_)
local macro_rules | `(tactic| walk_at "z") => `(tactic| with_reducible refine z_for1 ?_)
local macro_rules | `(tactic| walk_at "z") => `(tactic| with_reducible refine z_tsl ?_)
local macro_rules | `(tactic| walk_at "z") => `(tactic| with_reducible refine z_np ?_)
local macro_rules | `(tactic| walk_at "z") => `(tactic| with_reducible refine z_pt ?_)
local macro_rules | `(tactic| walk_at "z") => `(tactic| with_reducible refine z_pti ?_)
local macro_rules | `(tactic| walk_at "z") => `(tactic| with_reducible refine z_catI ?_)
local macro_rules | `(tactic| walk_at "z") => `(tactic| with_reducible refine z_isNI ?_)
local macro_rules | `(tactic| walk_at "z") => `(tactic| with_reducible refine z_isNN ?_)
local macro_rules | `(tactic| walk_at "z") => `(tactic| with_reducible refine z_notNI ?_)
local macro_rules | `(tactic| walk_at "z") => `(tactic| with_reducible refine z_notNN ?_)
local macro_rules | `(tactic| walk_at "z") => `(tactic| with_reducible refine z_gsub ?_)
local macro_rules | `(tactic| walk_at "z") => `(tactic| with_reducible refine z_isNb ?_)
local macro_rules | `(tactic| walk_at "z") => `(tactic| with_reducible refine z_notNb ?_)
local macro_rules | `(tactic| walk_at "z") => `(tactic| ((with_reducible refine' z_nlR ?zl1 ?_); (case zl1 => exact Nat.le_of_ble_eq_true rfl); intro p H' hp hs he))
local macro_rules | `(tactic| walk_at "z") => `(tactic| ((with_reducible refine' z_repR ?zl1 ?zl2 ?_); (case zl1 => omega); (case zl2 => omega)))
local macro_rules | `(tactic| walk_at "z") => `(tactic| ((with_reducible refine' z_repL ?zl1 ?zl2 ?_); (case zl1 => omega); (case zl2 => omega)))
local macro_rules | `(tactic| walk_at "z") => `(tactic| ((with_reducible refine' z_lenLst ?zl1 ?_); (case zl1 => walk_at "up")))
local macro_rules | `(tactic| walk_at "z") => `(tactic| ((with_reducible refine' z_cat ?zl1 ?zl2 ?zl3 ?_); (case zl1 => walk_at "up"); (case zl2 => walk_at "up"); (case zl3 => (simp only [List.length_map, List.length_cons, List.length_nil, List.length_append, List.length_replicate]; omega)); intro p H' hp hs he))
local macro_rules | `(tactic| walk_at "z") => `(tactic| with_reducible refine z_sfl ?_)
local macro_rules | `(tactic| walk_at "z") => `(tactic| with_reducible refine z_lcES ?_)
local macro_rules | `(tactic| walk_at "z") => `(tactic| with_reducible refine z_lcMS ?_)
local macro_rules | `(tactic| walk_at "z") => `(tactic| with_reducible refine z_foES ?_)
local macro_rules | `(tactic| walk_at "z") => `(tactic| with_reducible refine z_fo3S ?_)
local macro_rules | `(tactic| walk_at "z") => `(tactic| with_reducible refine z_sta ?_)
local macro_rules | `(tactic| walk_at "z") => `(tactic| with_reducible refine z_sta1 ?_)
local macro_rules | `(tactic| walk_at "z") => `(tactic| with_reducible refine z_lcTS ?_)
local macro_rules | `(tactic| walk_at "z") => `(tactic| with_reducible refine z_foTS ?_)
local macro_rules | `(tactic| walk_at "z") => `(tactic| with_reducible refine z_revTS ?_)
local macro_rules | `(tactic| walk_at "z") => `(tactic| with_reducible refine z_max2 ?_)
local macro_rules | `(tactic| walk_at "z") => `(tactic| ((with_reducible refine' z_fldt ?zc1 ?zc2 ?zl1 ?zl2 ?_); (case zc1 => exact Lw.cl_Ratio (by assumption)); (case zc2 => exact Lw.na_Ratio_top (by assumption)); (case zl1 => exact rfl); (case zl2 => walk_at "up")))
local macro_rules | `(tactic| walk_at "z") => `(tactic| ((with_reducible refine' z_fldb ?zc1 ?zc2 ?zl1 ?zl2 ?_); (case zc1 => exact Lw.cl_Ratio (by assumption)); (case zc2 => exact Lw.na_Ratio_bottom (by assumption)); (case zl1 => exact rfl); (case zl2 => walk_at "up")))
local macro_rules | `(tactic| walk_at "z") => `(tactic| ((with_reducible refine' u_mtF ?zl1 ?_); (case zl1 => walk_at "up")))
local macro_rules | `(tactic| walk_at "z") => `(tactic| ((with_reducible refine' z_ixLst ?zl1 ?zl2 ?_); (case zl1 => walk_at "up"); (case zl2 => exact rfl)))
local macro_rules | `(tactic| walk_at "z") => `(tactic| with_reducible refine z_for3 ?_)
local macro_rules | `(tactic| walk_at "z") => `(tactic| with_reducible refine z_tbits ?_)
local macro_rules | `(tactic| walk_at "z") => `(tactic| with_reducible refine z_tbi ?_)
local macro_rules | `(tactic| walk_at "z") => `(tactic| ((with_reducible refine' z_div2S ?zl1 ?zl2 ?_); (case zl1 => omega); (case zl2 => omega)))
local macro_rules | `(tactic| walk_at "z") => `(tactic| with_reducible refine u_who ?_)
local macro_rules | `(tactic| walk_at "z") => `(tactic| with_reducible refine z_asg2 ?_)
local macro_rules | `(tactic| walk_at "z") => `(tactic| ((with_reducible refine' u_cell ?zl1 ?zl2 ?_); (case zl1 => walk_at "up"); (case zl2 => omega); intro c))
local macro_rules | `(tactic| walk_at "z") => `(tactic| ((with_reducible refine' u_mod ?zl1 ?_); (case zl1 => omega)))
theorem same02l {H H1 H2 : Hp} (h : Same H1 H2) (e : Same H H1) : Same H H2 := e.trans h
local macro_rules | `(tactic| walk_at "sm") => `(tactic| first
  | assumption
  | exact fun _ _ h => h
  | (refine' same02l (by assumption) ?zsm; case zsm => walk_at "sm"))
local macro_rules | `(tactic| walk_at "up") => `(tactic| first
  | assumption
  | (with_reducible refine' IsR.mono (by assumption) ?zup; case zup => walk_at "up")
  | (with_reducible refine' Fr.mono (by assumption) ?zup; case zup => walk_at "up")
  | (with_reducible refine' Same.at (by assumption) ?zup; case zup => walk_at "up")
  | (with_reducible refine' Facs.mono (by assumption) ?zup; case zup => walk_at "up")
  | (with_reducible refine' IsPool.mono (by assumption) ?zup; case zup => walk_at "up")
  | (with_reducible refine' RowsAt.mono (by assumption) ?zup; case zup => walk_at "up")
  | (with_reducible refine' FacL.mono (by assumption) ?zup; case zup => walk_at "up")
  | fail)
section
variable {P : Program} {w : World} {K : Frag} {mg : Str → Option Value} {base : Heap}
theorem ok_law_odd (L : Lw K mg) {fd : FuncData} (F : FunD K "_law_odd" "_law_odd" (defArgs s_law_odd) (defBody s_law_odd) (defScope s_law_odd) (df_law_odd.dvs K) (df_law_odd.kws K) (He.fAd K ("_law_odd", none)) fd) : FnOk P w K mg base (L2N.CX P w) 2 (He.fAd K ("_law_odd", none)) fd (["script", "at"] : List Str) (sp2 fs_od) := by
  refine FunD.ok F sc_law_odd len2 (fun cdv A outer s H vs Q E hr h => ?_)
  obtain ⟨a, b, rfl, h⟩ := h
  refine ⟨_, (pss_cons (ps_set (i := 2) sc_law_odd.nd rfl (by first | exact Or.inl rfl | exact Or.inr rfl) (pe_c (c_law_mod (K := K) L) hr (by decide) (L2N.takes_of rfl rfl rfl rfl) (pa_cons (pe_c (c_law_cell (K := K) L) hr (by decide) (L2N.takes_of rfl rfl rfl rfl) (pa_cons (pv 0) (pa_cons (pv 1) pa_nil))) (pa_cons pe_int pa_nil))))
    (pss_cons (ps_set (i := 3) sc_law_odd.nd rfl (by first | exact Or.inl rfl | exact Or.inr rfl) (pe_op o_cat pe_int (pe_c (c_law_mod (K := K) L) hr (by decide) (L2N.takes_of rfl rfl rfl rfl) (pa_cons (pe_c (c_law_cell (K := K) L) hr (by decide) (L2N.takes_of rfl rfl rfl rfl) (pa_cons (pv 0) (pa_cons (pe_op o_cat (pv 1) pe_int) pa_nil))) (pa_cons pe_int pa_nil)))))
    (pss_cons (ps_set (i := 4) sc_law_odd.nd rfl (by first | exact Or.inl rfl | exact Or.inr rfl) (pe_op o_cat pe_int (pv 3)))
    (pss_one (ps_ret (pe_ix (ix_seqK (K := K) rfl) (pe_lst (pa_cons (pe_tup (pa_cons (pe_un o_neg (pv 3)) (pa_cons pe_int (pa_cons pe_int pa_nil)))) (pa_cons (pe_tup (pa_cons (pv 3) (pa_cons pe_int (pa_cons (pv 4) pa_nil)))) (pa_cons (pe_tup (pa_cons (pv 3) (pa_cons pe_int (pa_cons (pe_un o_neg (pv 3)) pa_nil)))) (pa_cons (pe_tup (pa_cons (pe_un o_neg (pv 3)) (pa_cons pe_int (pa_cons (pv 4) pa_nil)))) pa_nil))))) (pv 2) (fun _ _ => rfl))))))), ?_⟩
  rw [show L2.start (["script", "at", "kind", "p", "more"] : List Str) [a, b] = [some a, some b, none, none, none] from rfl]
  obtain ⟨p, k, rfl, rfl, hp, k0, q⟩ := h
  try dsimp only [List.set]
  walk_at "zz"
  rename_i c1 c2 t0 H1 g1 s1 e1 t1 H2 g2 s2 e2 t2 H3 g3 s3 e3 t3 H4 g4 s4 e4 L5 H5 g5 s5 e5
  have S5 : Same H H5 := by walk_at "sm"
  have p1 : 1 ≤ 1 + c2 % 30 ∧ 1 + c2 % 30 ≤ 30 := by omega
  generalize 1 + c2 % 30 = pp at *
  rcases (by omega : c1 % 4 = 0 ∨ c1 % 4 = 1 ∨ c1 % 4 = 2 ∨ c1 % 4 = 3) with e | e | e | e
  · rw [e]
    refine z_ixL (SqL.of e5) rfl ?_
    exact q _ (-pp, 7, 3) _ S5 (s5 _ _ (s4 _ _ (s3 _ _ (s2 _ _ e1)))) ⟨show (0 : Int) < 7 by decide, b20 (show -1000 ≤ -pp by omega) (show -pp ≤ 100000 by omega), b20 (show (-1000 : Int) ≤ 7 by decide) (show (7 : Int) ≤ 100000 by decide)⟩ (fun z => by have : 0 ≤ -pp := z.1; omega)
  · rw [e]
    refine z_ixL (SqL.of e5) rfl ?_
    exact q _ (pp, 7, 5000 + pp) _ S5 (s5 _ _ (s4 _ _ (s3 _ _ e2))) ⟨show (0 : Int) < 7 by decide, b20 (show -1000 ≤ pp by omega) (show pp ≤ 100000 by omega), b20 (show (-1000 : Int) ≤ 7 by decide) (show (7 : Int) ≤ 100000 by decide)⟩ (fun z => by have : 5000 + pp ≤ 5000 := z.2.2; omega)
  · rw [e]
    refine z_ixL (SqL.of e5) rfl ?_
    exact q _ (pp, 7, -pp) _ S5 (s5 _ _ (s4 _ _ e3)) ⟨show (0 : Int) < 7 by decide, b20 (show -1000 ≤ pp by omega) (show pp ≤ 100000 by omega), b20 (show (-1000 : Int) ≤ 7 by decide) (show (7 : Int) ≤ 100000 by decide)⟩ (fun z => by have : 0 ≤ -pp := z.2.1; omega)
  · rw [e]
    refine z_ixL (SqL.of e5) rfl ?_
    exact q _ (-pp, 7, 5000 + pp) _ S5 (s5 _ _ e4) ⟨show (0 : Int) < 7 by decide, b20 (show -1000 ≤ -pp by omega) (show -pp ≤ 100000 by omega), b20 (show (-1000 : Int) ≤ 7 by decide) (show (7 : Int) ≤ 100000 by decide)⟩ (fun z => by have : 0 ≤ -pp := z.1; omega)
theorem c_law_odd (L : Lw K mg) : Cal P w K mg base 2 "_law_odd" (sp2 fs_od) [] := by
  obtain ⟨fd, F⟩ := L.d_law_odd
  exact ⟨⟨_, fd, ["script", "at"], [], ok_law_odd L F, L.g_law_odd, F.kp, F.bindsN (fun _ _ _ _ _ _ us hl => match us, hl with | [_, _], _ => rfl), .nil⟩⟩
theorem ok_law_put (L : Lw K mg) {fd : FuncData} (F : FunD K "_law_put" "_law_put" (defArgs s_law_put) (defBody s_law_put) (defScope s_law_put) (df_law_put.dvs K) (df_law_put.kws K) (He.fAd K ("_law_put", none)) fd) : FnOk P w K mg base (L2N.CX P w) 2 (He.fAd K ("_law_put", none)) fd (["rows", "place", "row"] : List Str) (sp3 fs_pu) := by
  refine FunD.ok F sc_law_put len3 (fun cdv A outer s H vs Q E hr h => ?_)
  obtain ⟨a, b, c, rfl, h⟩ := h
  refine ⟨_, (pss_cons (ps_set (i := 3) sc_law_put.nd rfl (by first | exact Or.inl rfl | exact Or.inr rfl) (pe_c (c_law_mod (K := K) L) hr (by decide) (L2N.takes_of rfl rfl rfl rfl) (pa_cons (pv 1) (pa_cons (pe_op o_cat (pe_callB (callK rLen1 (K := K) rfl o_len) (by rfl) L.f_len (by decide +kernel) (pa_cons (pv 0) pa_nil)) pe_int) pa_nil))))
    (pss_one (ps_ret (pe_op o_cat (pe_op o_cat (pe_slice (slK rSlL (K := K) rfl sl_list) (pv 0) po_none (po_some (pv 3))) (pe_lst (pa_cons (pv 2) pa_nil))) (pe_slice (slK rSlL (K := K) rfl sl_list) (pv 0) (po_some (pv 3)) po_none))))), ?_⟩
  rw [show L2.start (["rows", "place", "row", "at"] : List Str) [a, b, c] = [some a, some b, some c, none] from rfl]
  obtain ⟨l, c, k, rs, r, rfl, rfl, rfl, hR, n, hc, q⟩ := h
  obtain ⟨xs, x1, x2, x3⟩ := id hR
  try dsimp only [List.set]
  walk_at "zz"
  have m0 : 0 ≤ k % ((xs.length : Int) + 1) := Int.emod_nonneg _ (by omega)
  generalize k % ((xs.length : Int) + 1) = at0 at *
  refine z_slHi hR m0 (fun a H1 g1 s1 h1 => ?_)
  try dsimp only [List.set]
  walk_at "zz"
  rename_i b H2 g2 s2 e2
  have hc2 : H2 c = some (.tup [.int r.1, .int r.2.1, .int r.2.2]) := s2 _ _ (s1 _ _ hc)
  have hb : RowsAt H2 b [r] := RowsAt.one (p := r.1) (q := r.2.1) (e := r.2.2) e2 hc2
  refine z_catR (h1.mono s2) hb (by rw [List.length_take]; omega) (by show 1 ≤ 1000; decide) (fun d H3 g3 s3 h3 => ?_)
  try dsimp only [List.set]
  walk_at "zz"
  refine z_slLo ((hR.mono (s1.trans s2)).mono s3) m0 (fun f H4 g4 s4 h4 => ?_)
  refine z_catR (h3.mono s4) h4 (by rw [List.length_append, List.length_take]; show _ + 1 ≤ 1000; omega) (by rw [List.length_drop]; omega) (fun e H5 g5 s5 h5 => ?_)
  exact q _ _ _ (by walk_at "sm") h5
theorem c_law_put (L : Lw K mg) : Cal P w K mg base 2 "_law_put" (sp3 fs_pu) [] := by
  obtain ⟨fd, F⟩ := L.d_law_put
  exact ⟨⟨_, fd, ["rows", "place", "row"], [], ok_law_put L F, L.g_law_put, F.kp, F.bindsN (fun _ _ _ _ _ _ us hl => match us, hl with | [_, _, _], _ => rfl), .nil⟩⟩
theorem ok_law_rows (L : Lw K mg) {fd : FuncData} (F : FunD K "_law_rows" "_law_rows" (defArgs s_law_rows) (defBody s_law_rows) (defScope s_law_rows) (df_law_rows.dvs K) (df_law_rows.kws K) (He.fAd K ("_law_rows", none)) fd) : FnOk P w K mg base (L2N.CX P w) 2 (He.fAd K ("_law_rows", none)) fd (["script", "at", "size"] : List Str) (sp3 fs_ro) := by
  refine FunD.ok F sc_law_rows len3 (fun cdv A outer s H vs Q E hr h => ?_)
  obtain ⟨a, b, c, rfl, h⟩ := h
  refine ⟨_, (pss_cons (ps_set (i := 3) sc_law_rows.nd rfl (by first | exact Or.inl rfl | exact Or.inr rfl) (pe_c (c_law_mod (K := K) L) hr (by decide) (L2N.takes_of rfl rfl rfl rfl) (pa_cons (pe_op o_cat (pe_c (c_law_cell (K := K) L) hr (by decide) (L2N.takes_of rfl rfl rfl rfl) (pa_cons (pv 0) (pa_cons (pv 1) pa_nil))) pe_int) (pa_cons pe_int pa_nil))))
    (pss_cons (ps_if (pt_cmpR op_eq (pv 2) pe_int (nomark _)) (pss_one (ps_set (i := 3) sc_law_rows.nd rfl (by first | exact Or.inl rfl | exact Or.inr rfl) (pe_callB (o_min2 rfl) (by rfl) L.f_min (by decide +kernel) (pa_cons (pv 3) (pa_cons pe_int pa_nil))))) pss_nil)
    (pss_cons (ps_set (i := 4) sc_law_rows.nd rfl (by first | exact Or.inl rfl | exact Or.inr rfl) (pe_lst pa_nil))
    (pss_cons (ps_for (passes_of rfl) rfl (pi_range1 (by rfl) L.f_range (pa_cons (pv 3) pa_nil)) (pg_name (i := 5) sc_law_rows.nd rfl (by first | exact Or.inl rfl | exact Or.inr rfl)) (pss_cons (ps_set (i := 6) sc_law_rows.nd rfl (by first | exact Or.inl rfl | exact Or.inr rfl) (pe_c (c_law_mod (K := K) L) hr (by decide) (L2N.takes_of rfl rfl rfl rfl) (pa_cons (pe_op o_cat (pe_op o_cat (pe_c (c_law_cell (K := K) L) hr (by decide) (L2N.takes_of rfl rfl rfl rfl) (pa_cons (pv 0) (pa_cons (pe_op o_cat (pe_op o_cat (pv 1) pe_int) (pe_op o_rep pe_int (pv 5))) pa_nil))) pe_int) (pe_op o_rep pe_int (pv 5))) (pa_cons pe_int pa_nil))))
    (pss_cons (ps_set (i := 7) sc_law_rows.nd rfl (by first | exact Or.inl rfl | exact Or.inr rfl) (pe_op o_cat pe_int (pe_c (c_law_mod (K := K) L) hr (by decide) (L2N.takes_of rfl rfl rfl rfl) (pa_cons (pe_op o_cat (pe_c (c_law_cell (K := K) L) hr (by decide) (L2N.takes_of rfl rfl rfl rfl) (pa_cons (pv 0) (pa_cons (pe_op o_cat (pe_op o_cat (pv 1) pe_int) (pe_op o_rep pe_int (pv 5))) pa_nil))) (pv 5)) (pa_cons pe_int pa_nil)))))
    (pss_cons (ps_set (i := 8) sc_law_rows.nd rfl (by first | exact Or.inl rfl | exact Or.inr rfl) (pe_c (c_law_mod (K := K) L) hr (by decide) (L2N.takes_of rfl rfl rfl rfl) (pa_cons (pe_op o_cat (pe_op o_cat (pe_c (c_law_cell (K := K) L) hr (by decide) (L2N.takes_of rfl rfl rfl rfl) (pa_cons (pv 0) (pa_cons (pe_op o_cat (pe_op o_cat (pv 1) pe_int) (pe_op o_rep pe_int (pv 5))) pa_nil))) pe_int) (pv 5)) (pa_cons pe_int pa_nil))))
    (pss_cons (ps_if (pt_cmpR op_eq (pv 2) pe_int (nomark _)) (pss_one (ps_set (i := 8) sc_law_rows.nd rfl (by first | exact Or.inl rfl | exact Or.inr rfl) (pe_op o_rep pe_int (pv 8)))) pss_nil)
    (pss_one (ps_set (i := 4) sc_law_rows.nd rfl (by first | exact Or.inl rfl | exact Or.inr rfl) (pe_op o_cat (pv 4) (pe_lst (pa_cons (pe_tup (pa_cons (pv 6) (pa_cons (pv 7) (pa_cons (pv 8) pa_nil)))) pa_nil))))))))))
    (pss_one (ps_ret (pv 4))))))), ?_⟩
  rw [show L2.start (["script", "at", "size", "count", "rows", "j", "p", "q", "count_of"] : List Str) [a, b, c] = [some a, some b, some c, none, none, none, none, none, none] from rfl]
  obtain ⟨p, k, s, rfl, rfl, rfl, hp, k0, q⟩ := h
  try dsimp only [List.set]
  walk_at "zz"
  rename_i c0
  have b0 : 0 ≤ (c0 + 2) % 6 ∧ (c0 + 2) % 6 ≤ 5 := by omega
  refine z_d2 (fun s7 => ?_) (fun s7 => ?_)
  · try dsimp only [List.set]
    walk_at "zz"
    refine z_min2 ?_
    try dsimp only [List.set]
    walk_at "zz"
    rename_i L0 H1 g1 s1 e1
    have b1 : 0 ≤ min ((c0 + 2) % 6) 2 ∧ min ((c0 + 2) % 6) 2 ≤ 2 := by omega
    generalize min ((c0 + 2) % 6) 2 = cnt at *
    refine z_foR (by omega) (by omega) (fun j σ' H' => ∃ (D : Addr) (rs : List PQE) (x5 x6 x7 x8 : Option V), σ' = [some (.ref p), some (.int k), some (.int s), some (.int cnt), some (.ref D), x5, x6, x7, x8] ∧ Same H H' ∧ RowsAt H' D rs ∧ rs.length = j ∧ (∀ r, r ∈ rs → 0 ≤ r.1 ∧ r.1 ≤ 30 ∧ 1 ≤ r.2.1 ∧ r.2.1 ≤ 12 ∧ 0 ≤ r.2.2 ∧ r.2.2 ≤ 780) ∧ esum rs ≤ (j : Int) * 780) ⟨_, [], _, _, _, _, rfl, s1, RowsAt.nil e1, rfl, (fun r hr => by cases hr), (by show (0 : Int) ≤ 0; decide)⟩ ?_ ?_
    · rintro j σ' H' hj ⟨D, rs, x5, x6, x7, x8, rfl, sh, hD, hl, hf, he⟩
      have hp' := hp.mono sh
      try dsimp only [List.set]
      walk_at "zz"
      rename_i c1 c2 c3
      have b1 : 0 ≤ (c1 + 2 + 3 * (j : Int)) % 31 ∧ (c1 + 2 + 3 * (j : Int)) % 31 ≤ 30 := by omega
      have b2 : 1 ≤ 1 + (c2 + (j : Int)) % 12 ∧ 1 + (c2 + (j : Int)) % 12 ≤ 12 := by omega
      have b3 : 0 ≤ (c3 + 2 + (j : Int)) % 61 ∧ (c3 + 2 + (j : Int)) % 61 ≤ 60 := by omega
      generalize (c1 + 2 + 3 * (j : Int)) % 31 = pp at *
      generalize 1 + (c2 + (j : Int)) % 12 = qq at *
      generalize (c3 + 2 + (j : Int)) % 61 = ee at *
      refine z_dT s7 ?_
      try dsimp only [List.set]
      walk_at "zz"
      rename_i t H2 g2 s2 e2 u H3 g3 s3 e3
      refine z_catR ((hD.mono s2).mono s3) (RowsAt.one e3 (s3 _ _ e2)) (by omega) (by show 1 ≤ 1000; decide) (fun d H4 g4 s4 h4 => ?_)
      refine ⟨d, _, _, _, _, _, rfl, ((sh.trans s2).trans s3).trans s4, h4, by rw [List.length_append, hl]; rfl, fun r hr => ?_, ?_⟩
      · rcases List.mem_append.mp hr with hr | hr
        · exact hf r hr
        · obtain rfl := List.mem_singleton.mp hr
          exact ⟨b1.1, b1.2, b2.1, b2.2, show 0 ≤ 13 * ee by omega, show 13 * ee ≤ 780 by omega⟩
      · rw [esum_app]
        show esum rs + (13 * ee) ≤ ((j + 1 : Nat) : Int) * 780
        omega
    rintro σ' H' ⟨D, rs, x5, x6, x7, x8, rfl, sh, hD, hl, hf, he⟩
    try dsimp only [List.set]
    walk_at "zz"
    exact q rs _ _ sh hD ⟨by omega, hf, by omega⟩
  · try dsimp only [List.set]
    walk_at "zz"
    rename_i L0 H1 g1 s1 e1
    generalize (c0 + 2) % 6 = cnt at *
    refine z_foR (by omega) (by omega) (fun j σ' H' => ∃ (D : Addr) (rs : List PQE) (x5 x6 x7 x8 : Option V), σ' = [some (.ref p), some (.int k), some (.int s), some (.int cnt), some (.ref D), x5, x6, x7, x8] ∧ Same H H' ∧ RowsAt H' D rs ∧ rs.length = j ∧ (∀ r, r ∈ rs → 0 ≤ r.1 ∧ r.1 ≤ 30 ∧ 1 ≤ r.2.1 ∧ r.2.1 ≤ 12 ∧ 0 ≤ r.2.2 ∧ r.2.2 ≤ 780) ∧ esum rs ≤ (j : Int) * 60) ⟨_, [], _, _, _, _, rfl, s1, RowsAt.nil e1, rfl, (fun r hr => by cases hr), (by show (0 : Int) ≤ 0; decide)⟩ ?_ ?_
    · rintro j σ' H' hj ⟨D, rs, x5, x6, x7, x8, rfl, sh, hD, hl, hf, he⟩
      have hp' := hp.mono sh
      try dsimp only [List.set]
      walk_at "zz"
      rename_i c1 c2 c3
      have b1 : 0 ≤ (c1 + 2 + 3 * (j : Int)) % 31 ∧ (c1 + 2 + 3 * (j : Int)) % 31 ≤ 30 := by omega
      have b2 : 1 ≤ 1 + (c2 + (j : Int)) % 12 ∧ 1 + (c2 + (j : Int)) % 12 ≤ 12 := by omega
      have b3 : 0 ≤ (c3 + 2 + (j : Int)) % 61 ∧ (c3 + 2 + (j : Int)) % 61 ≤ 60 := by omega
      generalize (c1 + 2 + 3 * (j : Int)) % 31 = pp at *
      generalize 1 + (c2 + (j : Int)) % 12 = qq at *
      generalize (c3 + 2 + (j : Int)) % 61 = ee at *
      refine z_dF s7 ?_
      try dsimp only [List.set]
      walk_at "zz"
      rename_i t H2 g2 s2 e2 u H3 g3 s3 e3
      refine z_catR ((hD.mono s2).mono s3) (RowsAt.one e3 (s3 _ _ e2)) (by omega) (by show 1 ≤ 1000; decide) (fun d H4 g4 s4 h4 => ?_)
      refine ⟨d, _, _, _, _, _, rfl, ((sh.trans s2).trans s3).trans s4, h4, by rw [List.length_append, hl]; rfl, fun r hr => ?_, ?_⟩
      · rcases List.mem_append.mp hr with hr | hr
        · exact hf r hr
        · obtain rfl := List.mem_singleton.mp hr
          exact ⟨b1.1, b1.2, b2.1, b2.2, show 0 ≤ ee by omega, show ee ≤ 780 by omega⟩
      · rw [esum_app]
        show esum rs + (ee) ≤ ((j + 1 : Nat) : Int) * 60
        omega
    rintro σ' H' ⟨D, rs, x5, x6, x7, x8, rfl, sh, hD, hl, hf, he⟩
    try dsimp only [List.set]
    walk_at "zz"
    exact q rs _ _ sh hD ⟨by omega, hf, by omega⟩
theorem c_law_rows (L : Lw K mg) : Cal P w K mg base 2 "_law_rows" (sp3 fs_ro) [] := by
  obtain ⟨fd, F⟩ := L.d_law_rows
  exact ⟨⟨_, fd, ["script", "at", "size"], [], ok_law_rows L F, L.g_law_rows, F.kp, F.bindsN (fun _ _ _ _ _ _ us hl => match us, hl with | [_, _, _], _ => rfl), .nil⟩⟩
theorem ok_law_turned (L : Lw K mg) {fd : FuncData} (F : FunD K "_law_turned" "_law_turned" (defArgs s_law_turned) (defBody s_law_turned) (defScope s_law_turned) (df_law_turned.dvs K) (df_law_turned.kws K) (He.fAd K ("_law_turned", none)) fd) : FnOk P w K mg base (L2N.CX P w) 1 (He.fAd K ("_law_turned", none)) fd (["rows", "kind", "y"] : List Str) (sp3 fs_tu) := by
  refine FunD.ok F sc_law_turned len3 (fun cdv A outer s H vs Q E hr h => ?_)
  obtain ⟨a, b, c, rfl, h⟩ := h
  refine ⟨_, (pss_cons (ps_set (i := 3) sc_law_turned.nd rfl (by first | exact Or.inl rfl | exact Or.inr rfl) (pe_lst pa_nil))
    (pss_cons (ps_for (passes_of rfl) rfl (pi_listK (K := K) rfl (pv 0)) (pg_name (i := 4) sc_law_turned.nd rfl (by first | exact Or.inl rfl | exact Or.inr rfl)) (pss_cons (ps_set (i := 5) sc_law_turned.nd rfl (by first | exact Or.inl rfl | exact Or.inr rfl) (pe_ix (ix_seqK (K := K) rfl) (pv 4) pe_int (fun _ _ => rfl)))
    (pss_cons (ps_set (i := 6) sc_law_turned.nd rfl (by first | exact Or.inl rfl | exact Or.inr rfl) (pe_ix (ix_seqK (K := K) rfl) (pv 4) pe_int (fun _ _ => rfl)))
    (pss_one (ps_if (pt_cmpR op_eq (pv 1) pe_int (nomark _)) (pss_cons (ps_set (i := 7) sc_law_turned.nd rfl (by first | exact Or.inl rfl | exact Or.inr rfl) (pe_op o_div (pe_ix (ix_seqK (K := K) rfl) (pv 4) pe_int (fun _ _ => rfl)) pe_int))
    (pss_cons (ps_set (i := 8) sc_law_turned.nd rfl (by first | exact Or.inl rfl | exact Or.inr rfl) (pe_tup (pa_cons (pv 5) (pa_cons (pv 6) (pa_cons (pe_op o_sub (pe_ix (ix_seqK (K := K) rfl) (pv 4) pe_int (fun _ _ => rfl)) (pe_op o_rep pe_int (pv 7))) pa_nil)))))
    (pss_one (ps_set (i := 3) sc_law_turned.nd rfl (by first | exact Or.inl rfl | exact Or.inr rfl) (pe_op o_cat (pe_lst (pa_cons (pe_tup (pa_cons (pe_op o_rep (pv 5) (pv 5)) (pa_cons (pe_op o_rep (pv 6) (pv 6)) (pa_cons (pv 7) pa_nil)))) (pa_cons (pv 8) pa_nil))) (pv 3)))))) (pss_one (ps_if (pt_cmpR op_eq (pv 1) pe_int (nomark _)) (pss_one (ps_set (i := 3) sc_law_turned.nd rfl (by first | exact Or.inl rfl | exact Or.inr rfl) (pe_op o_cat (pe_lst (pa_cons (pe_tup (pa_cons (pv 5) (pa_cons pe_int (pa_cons (pe_ix (ix_seqK (K := K) rfl) (pv 4) pe_int (fun _ _ => rfl)) pa_nil)))) (pa_cons (pe_tup (pa_cons pe_int (pa_cons (pv 6) (pa_cons (pe_ix (ix_seqK (K := K) rfl) (pv 4) pe_int (fun _ _ => rfl)) pa_nil)))) pa_nil))) (pv 3)))) (pss_one (ps_set (i := 3) sc_law_turned.nd rfl (by first | exact Or.inl rfl | exact Or.inr rfl) (pe_op o_cat (pe_lst (pa_cons (pv 4) pa_nil)) (pv 3)))))))))))
    (pss_cons (ps_if (pt_cmpR op_eq (pv 1) pe_int (nomark _)) (pss_one (ps_ret (pe_op o_cat (pe_op o_cat (pe_lst (pa_cons (pe_tup (pa_cons (pv 2) (pa_cons pe_int (pa_cons pe_int pa_nil)))) pa_nil)) (pv 3)) (pe_lst (pa_cons (pe_tup (pa_cons pe_int (pa_cons (pv 2) (pa_cons pe_int pa_nil)))) pa_nil))))) pss_nil)
    (pss_cons (ps_if (pt_cmpR op_eq (pv 1) pe_int (nomark _)) (pss_one (ps_ret (pe_op o_cat (pv 3) (pe_lst (pa_cons (pe_tup (pa_cons (pe_op o_cat pe_int (pv 2)) (pa_cons pe_int (pa_cons pe_int pa_nil)))) pa_nil))))) pss_nil)
    (pss_cons (ps_if (pt_cmpR op_eq (pv 1) pe_int (nomark _)) (pss_one (ps_ret (pe_op o_cat (pe_op o_cat (pe_lst (pa_cons (pe_tup (pa_cons pe_int (pa_cons pe_int (pa_cons pe_int pa_nil)))) (pa_cons (pe_tup (pa_cons pe_int (pa_cons (pv 2) (pa_cons pe_int pa_nil)))) pa_nil))) (pv 3)) (pe_lst (pa_cons (pe_tup (pa_cons pe_int (pa_cons pe_int (pa_cons pe_int pa_nil)))) pa_nil))))) pss_nil)
    (pss_one (ps_ret (pv 3)))))))), ?_⟩
  rw [show L2.start (["rows", "kind", "y", "out", "row", "p", "q", "half", "rest"] : List Str) [a, b, c] = [some a, some b, some c, none, none, none, none, none, none] from rfl]
  obtain ⟨l, kd, yy, rs, rfl, rfl, rfl, hR, hs, d1, d5, y1, y9, d4, q⟩ := h
  obtain ⟨xs, x1, x2, x3⟩ := id hR
  try dsimp only [List.set]
  walk_at "zz"
  rename_i D0 H1 g1 s1 e1
  have hm : ∃ m : Nat, (m = 2 ∧ kd ≤ 2 ∨ m = 1 ∧ 2 < kd) := by
    by_cases c : kd ≤ 2
    · exact ⟨2, .inl ⟨rfl, c⟩⟩
    · exact ⟨1, .inr ⟨rfl, by omega⟩⟩
  obtain ⟨m, hm⟩ := hm
  refine z_foV (s1 _ _ x1) (fun i σ' H' => ∃ (D : Addr) (os : List PQE) (x4 x5 x6 x7 x8 : Option V), σ' = [some (.ref l), some (.int kd), some (.int yy), some (.ref D), x4, x5, x6, x7, x8] ∧ Same H H' ∧ RowsAt H' D os ∧ Fine os ∧ (os.length ≤ i * m) ∧ esum os ≤ esum (rs.take i) * m) ⟨_, [], _, _, _, _, _, rfl, s1, RowsAt.nil e1, Fine.nil, by show 0 ≤ 0 * m; omega, by show (0 : Int) ≤ 0 * m; omega⟩ (fun i σ' H' z => by obtain ⟨_, _, _, _, _, _, _, _, s, _⟩ := z; exact s _ _ x1) ?_ ?_
  · rintro i x σ' H' ex ⟨D, os, x4, x5, x6, x7, x8, rfl, sh, hD, hf, hl, he⟩
    obtain ⟨c, r, er, rfl, hc⟩ := x3 i x ex
    have hc := sh _ _ hc
    have hr := hs.2.1 r (List.mem_of_getElem? er)
    have il : i < 5 := by
      have := (List.getElem?_eq_some_iff.mp er).1
      have := hs.1
      omega
    have et : esum (rs.take (i + 1)) = esum (rs.take i) + r.2.2 := by rw [take_snoc er, esum_app]
    have ol : os.length ≤ 10 := by
      rcases hm with ⟨rfl, _⟩ | ⟨rfl, _⟩ <;> omega
    obtain ⟨p, w, e⟩ := r
    obtain ⟨r1, r2, r3, r4, r5, r6⟩ : 0 ≤ p ∧ p ≤ 30 ∧ 1 ≤ w ∧ w ≤ 12 ∧ 0 ≤ e ∧ e ≤ 780 := hr
    have et : esum (rs.take (i + 1)) = esum (rs.take i) + e := et
    have hc : H' c = some (.tup [.int p, .int w, .int e]) := hc
    try dsimp only [List.set]
    walk_at "zz"
    refine z_d2 (fun c1 => ?_) (fun c1 => ?_)
    · try dsimp only [List.set]
      walk_at "zz"
      rename_i ta H2 g2 s2 e2 tb H3 g3 s3 e3 ll H4 g4 s4 e4
      have pq := Int.mul_le_mul r2 r2 r1 (show (0 : Int) ≤ 30 by decide)
      have wq := Int.mul_le_mul r4 r4 (show 0 ≤ w by omega) (show (0 : Int) ≤ 12 by decide)
      have pn := Int.mul_nonneg r1 r1
      have wn := Int.mul_pos (show 0 < w by omega) (show 0 < w by omega)
      have hn : Fine [(p * p, w * w, e / 2), (p, w, e - 2 * (e / 2))] := (Fine.one pn (by omega) (by omega) (by omega) (by omega) (by omega)).app (Fine.one r1 (by omega) r3 (by omega) (by omega) (by omega))
      refine z_catR (RowsAt.two e4 (s4 _ _ e3) (s4 _ _ (s3 _ _ e2))) (((hD.mono s2).mono s3).mono s4) (by show 2 ≤ 1000; decide) (by omega) (fun d H5 g5 s5 h5 => ?_)
      rcases hm with ⟨rfl, _⟩ | ⟨_, hk⟩
      · refine ⟨d, _, _, _, _, _, _, rfl, (((sh.trans s2).trans s3).trans s4).trans s5, h5, hn.app hf, by rw [List.length_append]; show 2 + os.length ≤ _; omega, ?_⟩
        rw [esum_cat, et]
        show e / 2 + (e - 2 * (e / 2) + 0) + esum os ≤ (esum (rs.take i) + e) * ((2 : Nat) : Int)
        omega
      · omega
    try dsimp only [List.set]
    walk_at "zz"
    refine z_d2 (fun c2 => ?_) (fun c2 => ?_)
    · try dsimp only [List.set]
      walk_at "zz"
      rename_i ta H2 g2 s2 e2 tb H3 g3 s3 e3 ll H4 g4 s4 e4
      have hn : Fine [(p, 1, e), (1, w, e)] := (Fine.one r1 (by omega) (by decide) (by decide) r5 (by omega)).app (Fine.one (by decide) (by decide) r3 (by omega) r5 (by omega))
      refine z_catR (RowsAt.two e4 (s4 _ _ (s3 _ _ e2)) (s4 _ _ e3)) (((hD.mono s2).mono s3).mono s4) (by show 2 ≤ 1000; decide) (by omega) (fun d H5 g5 s5 h5 => ?_)
      rcases hm with ⟨rfl, _⟩ | ⟨_, hk⟩
      · refine ⟨d, _, _, _, _, _, _, rfl, (((sh.trans s2).trans s3).trans s4).trans s5, h5, hn.app hf, by rw [List.length_append]; show 2 + os.length ≤ _; omega, ?_⟩
        rw [esum_cat, et]
        show e + (e + 0) + esum os ≤ (esum (rs.take i) + e) * ((2 : Nat) : Int)
        omega
      · omega
    try dsimp only [List.set]
    walk_at "zz"
    rename_i ll H2 g2 s2 e2
    have hn : Fine [(p, w, e)] := Fine.one r1 (by omega) r3 (by omega) r5 (by omega)
    refine z_catR (RowsAt.one e2 (s2 _ _ hc)) (hD.mono s2) (by show 1 ≤ 1000; decide) (by omega) (fun d H5 g5 s5 h5 => ?_)
    rcases hm with ⟨_, hk⟩ | ⟨rfl, _⟩
    · omega
    · refine ⟨d, _, _, _, _, _, _, rfl, (sh.trans s2).trans s5, h5, hn.app hf, by rw [List.length_append]; show 1 + os.length ≤ _; omega, ?_⟩
      rw [esum_cat, et]
      show e + 0 + esum os ≤ (esum (rs.take i) + e) * ((1 : Nat) : Int)
      omega
  rintro σ' H' ⟨D, os, x4, x5, x6, x7, x8, rfl, sh, hD, hf, hl, he⟩
  rw [x2] at hl he
  rw [List.take_length] at he
  have ol := hs.1
  have oe := hs.2.2
  have on := esum_nn fun r hr => (hf r hr).2
  try dsimp only [List.set]
  walk_at "zz"
  refine z_d2 (fun c3 => ?_) (fun c3 => ?_)
  · obtain ⟨rfl, _⟩ : m = 1 ∧ 2 < kd := by omega
    try dsimp only [List.set]
    walk_at "zz"
    rename_i ta H2 g2 s2 e2 ll H3 g3 s3 e3
    refine z_catR (RowsAt.one e3 (s3 _ _ e2)) ((hD.mono s2).mono s3) (by show 1 ≤ 1000; decide) (by omega) (fun d H4 g4 s4 h4 => ?_)
    try dsimp only [List.set]
    walk_at "zz"
    rename_i tb H5 g5 s5 e5 mm H6 g6 s6 e6
    refine z_catR ((h4.mono s5).mono s6) (RowsAt.one e6 (s6 _ _ e5)) (by rw [List.length_append]; show 1 + os.length ≤ 1000; omega) (by show 1 ≤ 1000; decide) (fun f H7 g7 s7 h7 => ?_)
    refine q _ _ _ (by walk_at "sm") h7 (((Fine.one (by omega) (by omega) (by decide) (by decide) (by decide) (by decide)).app hf).app (Fine.one (by decide) (by decide) y1 (by omega) (by decide) (by decide))) (by rw [List.length_append, List.length_append]; show 1 + os.length + 1 ≤ 8; omega) ?_
    rw [esum_cat, esum_cat]
    show 5 + 0 + esum os + (5 + 0) ≤ 3200
    omega
  try dsimp only [List.set]
  walk_at "zz"
  refine z_d2 (fun c4 => ?_) (fun c4 => ?_)
  · obtain ⟨rfl, _⟩ : m = 1 ∧ 2 < kd := by omega
    try dsimp only [List.set]
    walk_at "zz"
    rename_i ta H2 g2 s2 e2 ll H3 g3 s3 e3
    refine z_catR ((hD.mono s2).mono s3) (RowsAt.one e3 (s3 _ _ e2)) (by omega) (by show 1 ≤ 1000; decide) (fun d H4 g4 s4 h4 => ?_)
    refine q _ _ _ (by walk_at "sm") h4 (hf.app (Fine.one (by omega) (by omega) (by decide) (by decide) (by decide) (by decide))) (by rw [List.length_append]; show os.length + 1 ≤ 8; omega) ?_
    rw [esum_cat]
    show esum os + (1 + 0) ≤ 3200
    omega
  try dsimp only [List.set]
  walk_at "zz"
  refine z_d2 (fun c5 => ?_) (fun c5 => ?_)
  · obtain ⟨rfl, _⟩ : m = 1 ∧ 2 < kd := by omega
    try dsimp only [List.set]
    walk_at "zz"
    rename_i ta H2 g2 s2 e2 tb H3 g3 s3 e3 ll H4 g4 s4 e4
    refine z_catR (RowsAt.two e4 (s4 _ _ (s3 _ _ e2)) (s4 _ _ e3)) (((hD.mono s2).mono s3).mono s4) (by show 2 ≤ 1000; decide) (by omega) (fun d H5 g5 s5 h5 => ?_)
    try dsimp only [List.set]
    walk_at "zz"
    rename_i tc H6 g6 s6 e6 mm H7 g7 s7 e7
    refine z_catR ((h5.mono s6).mono s7) (RowsAt.one e7 (s7 _ _ e6)) (by rw [List.length_append]; show 2 + os.length ≤ 1000; omega) (by show 1 ≤ 1000; decide) (fun f H8 g8 s8 h8 => ?_)
    have hn : Fine [(0, 1, 0), (7, yy, 0)] := (Fine.one (by decide) (by decide) (by decide) (by decide) (by decide) (by decide)).app (Fine.one (by decide) (by decide) y1 (by omega) (by decide) (by decide))
    refine q _ _ _ (by walk_at "sm") h8 ((hn.app hf).app (Fine.one (by decide) (by decide) (by decide) (by decide) (by decide) (by decide))) (by rw [List.length_append, List.length_append]; show 2 + os.length + 1 ≤ 8; omega) ?_
    rw [esum_cat, esum_cat]
    show 0 + (0 + 0) + esum os + (60 + 0) ≤ 3200
    omega
  try dsimp only [List.set]
  walk_at "zz"
  have d4' := d4 (by omega)
  obtain ⟨rfl, _⟩ : m = 2 ∧ kd ≤ 2 := by omega
  exact q _ _ _ sh hD hf (by omega) (by omega)
theorem c_law_turned (L : Lw K mg) : Cal P w K mg base 1 "_law_turned" (sp3 fs_tu) [] := by
  obtain ⟨fd, F⟩ := L.d_law_turned
  exact ⟨⟨_, fd, ["rows", "kind", "y"], [], ok_law_turned L F, L.g_law_turned, F.kp, F.bindsN (fun _ _ _ _ _ _ us hl => match us, hl with | [_, _, _], _ => rfl), .nil⟩⟩
end
end T
set_option maxHeartbeats 4000000
namespace T
open PySem PySem.Spec PyProof.Rows L2 Z
theorem out_l {rs ss : List PQE} {o : Out} (h : outS rs = some o) : ∃ o, outOf rs ss = some o := ⟨o, by unfold outOf; rw [h]; rfl⟩
theorem out_r {rs ss : List PQE} {o : Out} (h : outS ss = some o) : ∃ o, outOf rs ss = some o := by
  unfold outOf
  cases e : outS rs with
  | some x => exact ⟨x, rfl⟩
  | none => exact ⟨o, by rw [h]; rfl⟩
theorem outS_mem {rs : List PQE} {r : PQE} (h : r ∈ rs) (b : ¬ okRow r) : ∃ o, outS rs = some o := by
  unfold outS
  split
  · exact ⟨_, rfl⟩
  · cases e : rs.find? bad with
    | some x => exact ⟨outR x, rfl⟩
    | none =>
      have := List.find?_eq_none.mp e r h
      exact absurd (bad_not b) this
theorem out_bad_l {rs ss : List PQE} {r : PQE} (h : r ∈ rs) (b : ¬ okRow r) : ∃ o, outOf rs ss = some o := by
  obtain ⟨o, e⟩ := outS_mem h b
  exact out_l e
theorem out_bad_r {rs ss : List PQE} {r : PQE} (h : r ∈ ss) (b : ¬ okRow r) : ∃ o, outOf rs ss = some o := by
  obtain ⟨o, e⟩ := outS_mem h b
  exact out_r e
theorem out_heavy {rs ss : List PQE} (f1 : Fine rs) (f2 : Fine ss) (l1 : rs.length ≤ 8) (l2 : ss.length ≤ 8) (h : 5000 < esum rs + esum ss) : ∃ o, outOf rs ss = some o := by
  unfold outOf
  rw [outS_ok l1 fun r hr => (f1 r hr).2, outS_ok l2 fun r hr => (f2 r hr).2, if_pos h]
  exact ⟨_, rfl⟩
theorem u_pe {H : Hp} {Q : VK} {E : XK} {l m : Addr} {rs ss : List PQE} (hR : RowsAt H l rs) (hS : RowsAt H m ss) (n1 : rs.length ≤ 20) (n2 : ss.length ≤ 20) (f1 : ∀ r, r ∈ rs → FitR r) (f2 : ∀ r, r ∈ ss → FitR r) (ho : ∃ o, outOf rs ss = some o) (q : ∀ H', Same H H' → Q (.bl true) H') : sp2 fs_pe [.ref l, .ref m] H Q E := by
  obtain ⟨o, ho⟩ := ho
  exact ⟨_, _, rfl, l, m, rs, ss, o, rfl, rfl, hR, hS, n1, n2, (fun r hr => (List.mem_append.mp hr).elim (f1 r) (f2 r)), ho, q⟩
theorem Fine.fit {rs : List PQE} (h : Fine rs) : ∀ r, r ∈ rs → FitR r := fun r hr => (h r hr).1
theorem fit1 {p q e : Int} (p0 : -1000 ≤ p) (p1 : p ≤ 100000) (q0 : 1 ≤ q) (q1 : q ≤ 100000) : ∀ r, r ∈ [(p, q, e)] → FitR r := fun r h => by
  obtain rfl := List.mem_singleton.mp h
  exact ⟨show 0 < q by omega, b20 (show -1000 ≤ p by omega) p1, b20 (show -1000 ≤ q by omega) q1⟩
theorem RowsAt.rep {H : Hp} {l c : Addr} {p q e : Int} {n : Nat} (h : H l = some (.lst (List.replicate n (.ref c)))) (hc : H c = some (.tup [.int p, .int q, .int e])) : RowsAt H l (List.replicate n (p, q, e)) := ⟨_, h, by rw [List.length_replicate, List.length_replicate], fun k x ex => by
  rw [List.getElem?_replicate] at ex
  split at ex
  · rename_i hk
    cases ex
    exact ⟨c, (p, q, e), by rw [List.getElem?_replicate, if_pos hk], rfl, hc⟩
  · cases ex⟩
theorem Fine.rep {p q e : Int} {n : Nat} (h : Fine [(p, q, e)]) : Fine (List.replicate n (p, q, e)) := fun r hr => by
  obtain rfl := List.eq_of_mem_replicate hr
  exact h _ (List.mem_singleton.mpr rfl)
def fs_he : F2 := fun x y H Q _ => ∃ (p : Addr) (s : Int), x = .ref p ∧ y = .int s ∧ IsPool H p ∧ ∀ H', Same H H' → Q (.bl true) H'
def fs_ma : F2 := fun x y H Q _ => ∃ (l m : Addr) (rs ss : List PQE), x = .ref l ∧ y = .ref m ∧ RowsAt H l rs ∧ RowsAt H m ss ∧ Fine rs ∧ Fine ss ∧ rs.length ≤ 8 ∧ ss.length ≤ 8 ∧ esum rs + esum ss ≤ 4900 ∧ ∀ H', Same H H' → Q (.bl true) H'
local macro_rules | `(tactic| walk_at "up") => `(tactic| first
  | assumption
  | (refine' IsR.mono (by assumption) ?zup; case zup => walk_at "up")
  | (refine' IsE.mono (by assumption) ?zup; case zup => walk_at "up")
  | (refine' Same.at (by assumption) ?zup; case zup => walk_at "up")
  | (refine' SqL.of ?zup; case zup => walk_at "up")
  | (refine' L2.Same.seq (by assumption) ?zup; case zup => walk_at "up"))
local macro_rules | `(tactic| walk_at "z") => `(tactic| first
  | ((with_reducible refine' z_var ?zvh ?_); (case zvh => exact rfl))
  | with_reducible refine z_c ?_
  | with_reducible refine z_cons ?_
  | with_reducible refine z_nil ?_
  | with_reducible refine z_op ?_
  | with_reducible refine z_nx ?_
  | with_reducible refine z_seq ?_
  | with_reducible refine z_asg ?_
  | with_reducible refine z_asgG ?_
  | with_reducible refine z_call ?_
  | with_reducible refine z_sq0 ?_
  | with_reducible refine z_sq1 ?_
  | with_reducible refine z_ifS ?_
  | with_reducible refine z_test ?_
  | with_reducible refine z_tb ?_
  | with_reducible refine z_bl ?_
  | with_reducible refine z_blI ?_
  | with_reducible refine z_ret ?_
  | with_reducible refine z_rt ?_
  | with_reducible refine z_T ?_
  | with_reducible refine z_F ?_
  | with_reducible refine z_add ?_
  | with_reducible refine z_sub ?_
  | with_reducible refine z_neg ?_
  | with_reducible refine z_un ?_
  | with_reducible refine z_eqI ?_
  | with_reducible refine z_neI ?_
  | with_reducible refine z_lt ?_
  | with_reducible refine z_le ?_
  | with_reducible refine z_gt ?_
  | with_reducible refine z_ge ?_
  | with_reducible refine z_not ?_
  | with_reducible refine z_and ?_
  | with_reducible refine z_or ?_
  | with_reducible refine z_andV ?_
  | with_reducible refine z_orV ?_
  | with_reducible refine z_notV ?_
  | with_reducible refine z_if ?_
  | with_reducible refine z_cb ?_
  | with_reducible refine z_int1 ?_
  | with_reducible refine z_intb ?_
  | with_reducible refine z_abs ?_
  | with_reducible refine z_gcd ?_
  | with_reducible refine z_isi_ii ?_
  | with_reducible refine z_isi_ib ?_
  | with_reducible refine z_next ?_
  | with_reducible refine z_drop ?_
  | with_reducible refine z_par ?_
  | with_reducible refine z_par2 ?_
  | with_reducible refine z_tupN ?_
  | with_reducible refine z_lstN ?_
  | ((with_reducible refine' z_nt ?zl1 ?_); (case zl1 => exact Nat.le_of_ble_eq_true rfl); intro p H' hp hs he)
  | ((with_reducible refine' z_gtup ?zl1 ?zl2 ?_); (case zl1 => walk_at "up"); (case zl2 => exact rfl))
  | with_reducible refine z_bk ?_
  | with_reducible refine z_ct ?_
  | with_reducible refine z_break ?_
  | with_reducible refine z_cont ?_
  | with_reducible refine z_retN ?_
  | with_reducible refine z_nn ?_
  | with_reducible refine z_mk ?_
  | with_reducible refine z_gn ?_
  | with_reducible refine z_gcons ?_
  | with_reducible refine z_gnil ?_
  | with_reducible refine z_mt ?_
  | with_reducible refine z_mko ?_
  | with_reducible refine z_for2 ?_
  | with_reducible refine z_ownI ?_
  | ((with_reducible refine' z_lenL ?zl1 ?_); (case zl1 => walk_at "up"))
  | ((with_reducible refine' z_ixT ?zl1 ?zl2 ?_); (case zl1 => walk_at "up"); (case zl2 => exact rfl))
  | ((with_reducible refine' z_mulL ?zl1 ?zl2 ?_); (case zl1 => omega); (case zl2 => omega))
  | ((with_reducible refine' z_mulR ?zl1 ?zl2 ?_); (case zl1 => omega); (case zl2 => omega))
  | ((with_reducible refine' z_divS ?zl1 ?zl2 ?_); (case zl1 => omega); (case zl2 => omega))
  | ((with_reducible refine' z_mulW ?zl1 ?zl2 ?zl3 ?zl4 ?_); (case zl1 => omega); (case zl2 => omega); (case zl3 => omega); (case zl4 => omega))
  | ((with_reducible refine' z_divW ?zl1 ?zl2 ?_); (case zl1 => omega); (case zl2 => omega)))
local macro_rules | `(tactic| walk_at "zz") => `(tactic| repeat (walk_at "z"))
local macro_rules | `(tactic| walk_at "z") => `(tactic| with_reducible refine z_lstN ?_)
local macro_rules | `(tactic| walk_at "z") => `(tactic| with_reducible refine z_p6 ?_)
local macro_rules | `(tactic| walk_at "z") => `(tactic| with_reducible refine z_p12 ?_)
local macro_rules | `(tactic| walk_at "z") => `(tactic| with_reducible refine z_p13 ?_)
local macro_rules | `(tactic| walk_at "z") => `(tactic| with_reducible refine z_calln ?_)
local macro_rules | `(tactic| walk_at "z") => `(tactic| with_reducible refine z_xfS ?_)
local macro_rules | `(tactic| walk_at "z") => `(tactic| with_reducible refine z_lcS ?_)
local macro_rules | `(tactic| walk_at "z") => `(tactic| with_reducible refine z_lcRS ?_)
local macro_rules | `(tactic| walk_at "z") => `(tactic| with_reducible refine z_lcZS ?_)
local macro_rules | `(tactic| walk_at "z") => `(tactic| with_reducible refine z_foS ?_)
local macro_rules | `(tactic| walk_at "z") => `(tactic| with_reducible refine z_for1 ?_)
local macro_rules | `(tactic| walk_at "z") => `(tactic| with_reducible refine z_tsl ?_)
local macro_rules | `(tactic| walk_at "z") => `(tactic| with_reducible refine z_np ?_)
local macro_rules | `(tactic| walk_at "z") => `(tactic| with_reducible refine z_pt ?_)
local macro_rules | `(tactic| walk_at "z") => `(tactic| with_reducible refine z_pti ?_)
local macro_rules | `(tactic| walk_at "z") => `(tactic| with_reducible refine z_catI ?_)
local macro_rules | `(tactic| walk_at "z") => `(tactic| with_reducible refine z_isNI ?_)
local macro_rules | `(tactic| walk_at "z") => `(tactic| with_reducible refine z_isNN ?_)
local macro_rules | `(tactic| walk_at "z") => `(tactic| with_reducible refine z_notNI ?_)
local macro_rules | `(tactic| walk_at "z") => `(tactic| with_reducible refine z_notNN ?_)
local macro_rules | `(tactic| walk_at "z") => `(tactic| with_reducible refine z_gsub ?_)
local macro_rules | `(tactic| walk_at "z") => `(tactic| with_reducible refine z_isNb ?_)
local macro_rules | `(tactic| walk_at "z") => `(tactic| with_reducible refine z_notNb ?_)
local macro_rules | `(tactic| walk_at "z") => `(tactic| ((with_reducible refine' z_nlR ?zl1 ?_); (case zl1 => exact Nat.le_of_ble_eq_true rfl); intro p H' hp hs he))
local macro_rules | `(tactic| walk_at "z") => `(tactic| ((with_reducible refine' z_repR ?zl1 ?zl2 ?_); (case zl1 => omega); (case zl2 => omega)))
local macro_rules | `(tactic| walk_at "z") => `(tactic| ((with_reducible refine' z_repL ?zl1 ?zl2 ?_); (case zl1 => omega); (case zl2 => omega)))
local macro_rules | `(tactic| walk_at "z") => `(tactic| ((with_reducible refine' z_lenLst ?zl1 ?_); (case zl1 => walk_at "up")))
local macro_rules | `(tactic| walk_at "z") => `(tactic| ((with_reducible refine' z_cat ?zl1 ?zl2 ?zl3 ?_); (case zl1 => walk_at "up"); (case zl2 => walk_at "up"); (case zl3 => (simp only [List.length_map, List.length_cons, List.length_nil, List.length_append, List.length_replicate]; omega)); intro p H' hp hs he))
local macro_rules | `(tactic| walk_at "z") => `(tactic| with_reducible refine z_sfl ?_)
local macro_rules | `(tactic| walk_at "z") => `(tactic| with_reducible refine z_lcES ?_)
local macro_rules | `(tactic| walk_at "z") => `(tactic| with_reducible refine z_lcMS ?_)
local macro_rules | `(tactic| walk_at "z") => `(tactic| with_reducible refine z_foES ?_)
local macro_rules | `(tactic| walk_at "z") => `(tactic| with_reducible refine z_fo3S ?_)
local macro_rules | `(tactic| walk_at "z") => `(tactic| with_reducible refine z_sta ?_)
local macro_rules | `(tactic| walk_at "z") => `(tactic| with_reducible refine z_sta1 ?_)
local macro_rules | `(tactic| walk_at "z") => `(tactic| with_reducible refine z_lcTS ?_)
local macro_rules | `(tactic| walk_at "z") => `(tactic| with_reducible refine z_foTS ?_)
local macro_rules | `(tactic| walk_at "z") => `(tactic| with_reducible refine z_revTS ?_)
local macro_rules | `(tactic| walk_at "z") => `(tactic| with_reducible refine z_max2 ?_)
local macro_rules | `(tactic| walk_at "z") => `(tactic| ((with_reducible refine' z_fldt ?zc1 ?zc2 ?zl1 ?zl2 ?_); (case zc1 => exact Lw.cl_Ratio (by assumption)); (case zc2 => exact Lw.na_Ratio_top (by assumption)); (case zl1 => exact rfl); (case zl2 => walk_at "up")))
local macro_rules | `(tactic| walk_at "z") => `(tactic| ((with_reducible refine' z_fldb ?zc1 ?zc2 ?zl1 ?zl2 ?_); (case zc1 => exact Lw.cl_Ratio (by assumption)); (case zc2 => exact Lw.na_Ratio_bottom (by assumption)); (case zl1 => exact rfl); (case zl2 => walk_at "up")))
local macro_rules | `(tactic| walk_at "z") => `(tactic| ((with_reducible refine' u_mtF ?zl1 ?_); (case zl1 => walk_at "up")))
local macro_rules | `(tactic| walk_at "z") => `(tactic| ((with_reducible refine' z_ixLst ?zl1 ?zl2 ?_); (case zl1 => walk_at "up"); (case zl2 => exact rfl)))
local macro_rules | `(tactic| walk_at "z") => `(tactic| with_reducible refine z_for3 ?_)
local macro_rules | `(tactic| walk_at "z") => `(tactic| with_reducible refine z_tbits ?_)
local macro_rules | `(tactic| walk_at "z") => `(tactic| with_reducible refine z_tbi ?_)
local macro_rules | `(tactic| walk_at "z") => `(tactic| ((with_reducible refine' z_div2S ?zl1 ?zl2 ?_); (case zl1 => omega); (case zl2 => omega)))
local macro_rules | `(tactic| walk_at "z") => `(tactic| with_reducible refine u_who ?_)
local macro_rules | `(tactic| walk_at "z") => `(tactic| with_reducible refine z_asg2 ?_)
local macro_rules | `(tactic| walk_at "z") => `(tactic| ((with_reducible refine' u_cell ?zl1 ?zl2 ?_); (case zl1 => walk_at "up"); (case zl2 => omega); intro c))
local macro_rules | `(tactic| walk_at "z") => `(tactic| ((with_reducible refine' u_mod ?zl1 ?_); (case zl1 => omega)))
theorem same02m {H H1 H2 : Hp} (h : Same H1 H2) (e : Same H H1) : Same H H2 := e.trans h
local macro_rules | `(tactic| walk_at "sm") => `(tactic| first
  | assumption
  | exact fun _ _ h => h
  | (refine' same02m (by assumption) ?zsm; case zsm => walk_at "sm"))
local macro_rules | `(tactic| walk_at "up") => `(tactic| first
  | assumption
  | (with_reducible refine' IsR.mono (by assumption) ?zup; case zup => walk_at "up")
  | (with_reducible refine' Fr.mono (by assumption) ?zup; case zup => walk_at "up")
  | (with_reducible refine' Same.at (by assumption) ?zup; case zup => walk_at "up")
  | (with_reducible refine' Facs.mono (by assumption) ?zup; case zup => walk_at "up")
  | (with_reducible refine' IsPool.mono (by assumption) ?zup; case zup => walk_at "up")
  | (with_reducible refine' RowsAt.mono (by assumption) ?zup; case zup => walk_at "up")
  | (with_reducible refine' FacL.mono (by assumption) ?zup; case zup => walk_at "up")
  | fail)
section
variable {P : Program} {w : World} {K : Frag} {mg : Str → Option Value} {base : Heap}
theorem ok_law_heavy (L : Lw K mg) {fd : FuncData} (F : FunD K "_law_heavy" "_law_heavy" (defArgs s_law_heavy) (defBody s_law_heavy) (defScope s_law_heavy) (df_law_heavy.dvs K) (df_law_heavy.kws K) (He.fAd K ("_law_heavy", none)) fd) : FnOk P w K mg base (L2N.CX P w) 7 (He.fAd K ("_law_heavy", none)) fd (["script", "size"] : List Str) (sp2 fs_he) := by
  refine FunD.ok F sc_law_heavy len2 (fun cdv A outer s H vs Q E hr h => ?_)
  obtain ⟨a, b, rfl, h⟩ := h
  refine ⟨_, (pss_cons (ps_set (i := 2) sc_law_heavy.nd rfl (by first | exact Or.inl rfl | exact Or.inr rfl) (pe_c (c_law_mod (K := K) L) hr (by decide) (L2N.takes_of rfl rfl rfl rfl) (pa_cons (pe_op o_cat (pe_c (c_law_cell (K := K) L) hr (by decide) (L2N.takes_of rfl rfl rfl rfl) (pa_cons (pv 0) (pa_cons pe_int pa_nil))) pe_int) (pa_cons pe_int pa_nil))))
    (pss_cons (ps_set (i := 3) sc_law_heavy.nd rfl (by first | exact Or.inl rfl | exact Or.inr rfl) (pe_op o_cat pe_int (pe_c (c_law_mod (K := K) L) hr (by decide) (L2N.takes_of rfl rfl rfl rfl) (pa_cons (pe_op o_cat (pe_c (c_law_cell (K := K) L) hr (by decide) (L2N.takes_of rfl rfl rfl rfl) (pa_cons (pv 0) (pa_cons pe_int pa_nil))) pe_int) (pa_cons pe_int pa_nil)))))
    (pss_cons (ps_set (i := 4) sc_law_heavy.nd rfl (by first | exact Or.inl rfl | exact Or.inr rfl) (pe_op o_cat pe_int (pe_c (c_law_mod (K := K) L) hr (by decide) (L2N.takes_of rfl rfl rfl rfl) (pa_cons (pe_op o_cat (pe_c (c_law_cell (K := K) L) hr (by decide) (L2N.takes_of rfl rfl rfl rfl) (pa_cons (pv 0) (pa_cons pe_int pa_nil))) pe_int) (pa_cons pe_int pa_nil)))))
    (pss_cons (ps_set (i := 5) sc_law_heavy.nd rfl (by first | exact Or.inl rfl | exact Or.inr rfl) (pe_lst (pa_cons (pe_tup (pa_cons (pv 3) (pa_cons pe_int (pa_cons (pv 2) pa_nil)))) pa_nil)))
    (pss_cons (ps_if (pt_not (pt_val (pe_c (c_law_product_error (K := K) L) hr (by decide) (L2N.takes_of rfl rfl rfl rfl) (pa_cons (pv 5) (pa_cons (pe_lst (pa_cons (pe_tup (pa_cons (pv 4) (pa_cons pe_int (pa_cons (pe_op o_sub pe_int (pv 2)) pa_nil)))) pa_nil)) pa_nil))))) (pss_one (ps_ret pe_bl)) pss_nil)
    (pss_cons (ps_if (pt_not (pt_val (pe_c (c_law_product_error (K := K) L) hr (by decide) (L2N.takes_of rfl rfl rfl rfl) (pa_cons (pe_lst (pa_cons (pe_tup (pa_cons (pv 3) (pa_cons pe_int (pa_cons pe_int pa_nil)))) (pa_cons (pe_tup (pa_cons pe_int (pa_cons pe_int (pa_cons pe_int pa_nil)))) pa_nil))) (pa_cons (pe_lst (pa_cons (pe_tup (pa_cons (pv 4) (pa_cons pe_int (pa_cons (pe_op o_cat pe_int (pv 3)) pa_nil)))) (pa_cons (pe_tup (pa_cons pe_int (pa_cons pe_int (pa_cons pe_int pa_nil)))) pa_nil))) pa_nil))))) (pss_one (ps_ret pe_bl)) pss_nil)
    (pss_one (ps_ret (pe_or (pe_cmpR op_ne (pv 1) pe_int (nomark _)) (pe_one (pe_c (c_law_products (K := K) L) hr (by decide) (L2N.takes_of rfl rfl rfl rfl) (pa_cons (pv 5) (pa_cons (pe_lst (pa_cons (pe_tup (pa_cons (pv 4) (pa_cons pe_int (pa_cons (pe_op o_sub pe_int (pv 2)) pa_nil)))) pa_nil)) pa_nil))))))))))))), ?_⟩
  rw [show L2.start (["script", "size", "a", "p", "q", "first"] : List Str) [a, b] = [some a, some b, none, none, none, none] from rfl]
  obtain ⟨p, s, rfl, rfl, hp, q⟩ := h
  try dsimp only [List.set]
  walk_at "zz"
  rename_i ca cp cq t1 H1 g1 s1 e1 l1 H2 g2 s2 e2 t3 H3 g3 s3 e3 l3 H4 g4 s4 e4
  have ba : 0 ≤ (ca + 4000) % 5001 ∧ (ca + 4000) % 5001 ≤ 5000 := by omega
  have bp : 1 ≤ 1 + (cp + 2) % 30 ∧ 1 + (cp + 2) % 30 ≤ 30 := by omega
  have bq : 1 ≤ 1 + (cq + 4) % 30 ∧ 1 + (cq + 4) % 30 ≤ 30 := by omega
  generalize (ca + 4000) % 5001 = a at *
  generalize 1 + (cp + 2) % 30 = pp at *
  generalize 1 + (cq + 4) % 30 = qq at *
  have hF : Fine [(pp, 3, a)] := Fine.one (by omega) (by omega) (by decide) (by decide) (by omega) (by omega)
  have hA : RowsAt H2 l1 [(pp, 3, a)] := RowsAt.one e2 (s2 _ _ e1)
  refine u_pe ((hA.mono s3).mono s4) (RowsAt.one e4 (s4 _ _ e3)) (by show 1 ≤ 20; decide) (by show 1 ≤ 20; decide) hF.fit (fit1 (by omega) (by omega) (by decide) (by decide)) ?_ (fun H5 s5 => ?_)
  · by_cases c : a = 0
    · refine out_bad_r (r := (qq, 2, 5001 - a)) (List.mem_singleton.mpr rfl) (fun z => ?_)
      have : 5001 - a ≤ 5000 := z.2.2
      omega
    · refine out_heavy hF (Fine.one (by omega) (by omega) (by decide) (by decide) (by omega) (by omega)) (by show 1 ≤ 8; decide) (by show 1 ≤ 8; decide) ?_
      show 5000 < a + 0 + (5001 - a + 0)
      omega
  try dsimp only [List.set]
  walk_at "zz"
  rename_i t5 H6 g6 s6 e6 t7 H7 g7 s7 e7 l5 H8 g8 s8 e8 t9 H9 g9 s9 e9 tA HA gA sA eA lA HB gB sB eB
  have hB := (((RowsAt.two e8 (s8 _ _ (s7 _ _ e6)) (s8 _ _ e7)).mono s9).mono sA).mono sB
  have fB : Fine [(pp, 3, 2500), (0, 1, 1)] := (Fine.one (p := pp) (q := 3) (e := 2500) (by omega) (by omega) (by decide) (by decide) (by decide) (by decide)).app (Fine.one (p := 0) (q := 1) (e := 1) (by decide) (by decide) (by decide) (by decide) (by decide) (by decide))
  have fC : Fine [(qq, 2, 2000 + pp), (1, 1, 501)] := (Fine.one (p := qq) (q := 2) (e := 2000 + pp) (by omega) (by omega) (by decide) (by decide) (by omega) (by omega)).app (Fine.one (p := 1) (q := 1) (e := 501) (by decide) (by decide) (by decide) (by decide) (by decide) (by decide))
  refine u_pe hB (RowsAt.two eB (sB _ _ (sA _ _ e9)) (sB _ _ eA)) (by show 2 ≤ 20; decide) (by show 2 ≤ 20; decide) fB.fit fC.fit (out_heavy fB fC (by show 2 ≤ 8; decide) (by show 2 ≤ 8; decide) ?_) (fun HC sC => ?_)
  · show 5000 < 2500 + (1 + 0) + (2000 + pp + (501 + 0))
    omega
  have S4 : Same H4 HC := by walk_at "sm"
  try dsimp only [List.set]
  walk_at "zz"
  refine z_d2 (fun c7 => ?_) (fun c7 => ?_)
  · try dsimp only [List.set]
    walk_at "zz"
    rename_i tD HD gD sD eD lD HE gE sE eE
    have f2 : Fine [(qq, 2, 5000 - a)] := Fine.one (by omega) (by omega) (by decide) (by decide) (by omega) (by omega)
    refine u_pr ((((hA.mono (s3.trans s4)).mono S4).mono sD).mono sE) (RowsAt.one eE (sE _ _ eD)) hF f2 (by show 1 ≤ 8; decide) (by show 1 ≤ 8; decide) ?_ (fun HG sG => ?_)
    · show a + 0 + (5000 - a + 0) ≤ 5000
      omega
    · exact q _ (by walk_at "sm")
  · exact q _ (by walk_at "sm")
theorem c_law_heavy (L : Lw K mg) : Cal P w K mg base 7 "_law_heavy" (sp2 fs_he) [] := by
  obtain ⟨fd, F⟩ := L.d_law_heavy
  exact ⟨⟨_, fd, ["script", "size"], [], ok_law_heavy L F, L.g_law_heavy, F.kp, F.bindsN (fun _ _ _ _ _ _ us hl => match us, hl with | [_, _], _ => rfl), .nil⟩⟩
theorem ok_law_many (L : Lw K mg) {fd : FuncData} (F : FunD K "_law_many" "_law_many" (defArgs s_law_many) (defBody s_law_many) (defScope s_law_many) (df_law_many.dvs K) (df_law_many.kws K) (He.fAd K ("_law_many", none)) fd) : FnOk P w K mg base (L2N.CX P w) 7 (He.fAd K ("_law_many", none)) fd (["first", "second"] : List Str) (sp2 fs_ma) := by
  refine FunD.ok F sc_law_many len2 (fun cdv A outer s H vs Q E hr h => ?_)
  obtain ⟨a, b, rfl, h⟩ := h
  refine ⟨_, (pss_cons (ps_set (i := 2) sc_law_many.nd rfl (by first | exact Or.inl rfl | exact Or.inr rfl) (pe_slice (slK rSlL (K := K) rfl sl_list) (pe_op o_cat (pv 0) (pe_op o_rep (pe_lst (pa_cons (pe_tup (pa_cons pe_int (pa_cons pe_int (pa_cons pe_int pa_nil)))) pa_nil)) pe_int)) po_none (po_some pe_int)))
    (pss_cons (ps_set (i := 3) sc_law_many.nd rfl (by first | exact Or.inl rfl | exact Or.inr rfl) (pe_slice (slK rSlL (K := K) rfl sl_list) (pe_op o_cat (pv 1) (pe_op o_rep (pe_lst (pa_cons (pe_tup (pa_cons pe_int (pa_cons pe_int (pa_cons pe_int pa_nil)))) pa_nil)) pe_int)) po_none (po_some pe_int)))
    (pss_cons (ps_if (PW.pt (pw_or (pt_not (pt_val (pe_c (c_law_product_error (K := K) L) hr (by decide) (L2N.takes_of rfl rfl rfl rfl) (pa_cons (pv 2) (pa_cons (pv 1) pa_nil))))) (pw_or1 (pt_not (pt_val (pe_c (c_law_product_error (K := K) L) hr (by decide) (L2N.takes_of rfl rfl rfl rfl) (pa_cons (pv 0) (pa_cons (pv 2) pa_nil)))))))) (pss_one (ps_ret pe_bl)) pss_nil)
    (pss_cons (ps_if (PW.pt (pw_or (pt_not (pt_val (pe_c (c_law_product_error (K := K) L) hr (by decide) (L2N.takes_of rfl rfl rfl rfl) (pa_cons (pv 2) (pa_cons (pe_lst (pa_cons (pe_tup (pa_cons (pe_un o_neg pe_int) (pa_cons pe_int (pa_cons pe_int pa_nil)))) pa_nil)) pa_nil))))) (pw_or1 (pt_not (pt_val (pe_c (c_law_product_error (K := K) L) hr (by decide) (L2N.takes_of rfl rfl rfl rfl) (pa_cons (pe_lst (pa_cons (pe_tup (pa_cons (pe_un o_neg pe_int) (pa_cons pe_int (pa_cons pe_int pa_nil)))) pa_nil)) (pa_cons (pv 2) pa_nil)))))))) (pss_one (ps_ret pe_bl)) pss_nil)
    (pss_one (ps_ret (pe_c (c_law_products (K := K) L) hr (by decide) (L2N.takes_of rfl rfl rfl rfl) (pa_cons (pv 3) (pa_cons (pv 0) pa_nil))))))))), ?_⟩
  rw [show L2.start (["first", "second", "long", "full"] : List Str) [a, b] = [some a, some b, none, none] from rfl]
  obtain ⟨l, m, rs, ss, rfl, rfl, hR, hS, f1, f2, l1, l2, es, q⟩ := h
  obtain ⟨xs, x1, x2, x3⟩ := id hR
  obtain ⟨ys, y1, y2, y3⟩ := id hS
  have e1 := esum_nn fun r hr => (f1 r hr).2
  have e2 := esum_nn fun r hr => (f2 r hr).2
  try dsimp only [List.set]
  walk_at "zz"
  rename_i t1 H1 g1 s1 a1 l3 H2 g2 s2 a2
  refine z_rep1 a2 (by decide) (by decide) (fun l4 H3 g3 s3 a3 => ?_)
  have rR : RowsAt H3 l4 (List.replicate 9 (1, 2, 0)) := RowsAt.rep a3 (s3 _ _ (s2 _ _ a1))
  refine z_catR (((hR.mono s1).mono s2).mono s3) rR (by omega) (by rw [List.length_replicate]; decide) (fun l5 H4 g4 s4 h4 => ?_)
  try dsimp only [List.set]
  walk_at "zz"
  refine z_slHi h4 (by decide) (fun lo H5 g5 s5 h5 => ?_)
  have k9 : ((rs ++ List.replicate 9 ((1, 2, 0) : PQE)).take (9 : Int).toNat).length = 9 := by
    rw [List.length_take, List.length_append, List.length_replicate]
    show min 9 (rs.length + 9) = 9
    omega
  have fl : Fine ((rs ++ List.replicate 9 ((1, 2, 0) : PQE)).take (9 : Int).toNat) := (f1.app (Fine.rep (Fine.one (by decide) (by decide) (by decide) (by decide) (by decide) (by decide)))).take _
  generalize (rs ++ List.replicate 9 ((1, 2, 0) : PQE)).take (9 : Int).toNat = long at *
  have S5 : Same H H5 := by walk_at "sm"
  try dsimp only [List.set]
  walk_at "zz"
  rename_i t6 H6 g6 s6 a6 l7 H7 g7 s7 a7
  refine z_rep1 a7 (by decide) (by decide) (fun l8 H8 g8 s8 a8 => ?_)
  have rS : RowsAt H8 l8 (List.replicate 8 (3, 2, 1)) := RowsAt.rep a8 (s8 _ _ (s7 _ _ a6))
  refine z_catR ((((hS.mono S5).mono s6).mono s7).mono s8) rS (by omega) (by rw [List.length_replicate]; decide) (fun l9 H9 g9 s9 h9 => ?_)
  try dsimp only [List.set]
  walk_at "zz"
  refine z_slHi h9 (by decide) (fun fu HA gA sA hA => ?_)
  have f8 : Fine (List.replicate 8 ((3, 2, 1) : PQE)) := Fine.rep (Fine.one (by decide) (by decide) (by decide) (by decide) (by decide) (by decide))
  have k8 : ((ss ++ List.replicate 8 ((3, 2, 1) : PQE)).take (8 : Int).toNat).length ≤ 8 := by
    rw [List.length_take]
    exact Nat.min_le_left _ _
  have ff : Fine ((ss ++ List.replicate 8 ((3, 2, 1) : PQE)).take (8 : Int).toNat) := (f2.app f8).take _
  have ef : esum ((ss ++ List.replicate 8 ((3, 2, 1) : PQE)).take (8 : Int).toNat) ≤ esum ss + 8 := by
    refine Int.le_trans (esum_take (fun r hr => ((f2.app f8) r hr).2) _).1 ?_
    rw [esum_cat]
    exact Int.le_refl _
  generalize (ss ++ List.replicate 8 ((3, 2, 1) : PQE)).take (8 : Int).toNat = full at *
  have S5A : Same H5 HA := by walk_at "sm"
  have hRA := (hR.mono S5).mono S5A
  have hSA := (hS.mono S5).mono S5A
  have hLA := h5.mono S5A
  have o9 := outS_sz (rs := long) (by omega)
  try dsimp only [List.set]
  walk_at "zz"
  refine u_pe hLA hSA (by omega) (by omega) fl.fit f2.fit (out_l o9) (fun HB sB => ?_)
  try dsimp only [List.set]
  walk_at "zz"
  refine u_pe (hRA.mono sB) (hLA.mono sB) (by omega) (by omega) f1.fit fl.fit (out_r o9) (fun HC sC => ?_)
  try dsimp only [List.set]
  walk_at "zz"
  rename_i t2 HD gD sD aD l2' HE gE sE aE
  have fm : ∀ r, r ∈ [((-1, 1, 1) : PQE)] → FitR r := fit1 (by decide) (by decide) (by decide) (by decide)
  refine u_pe ((((hLA.mono sB).mono sC).mono sD).mono sE) (RowsAt.one aE (sE _ _ aD)) (by omega) (by show 1 ≤ 20; decide) fl.fit fm (out_l o9) (fun HF sF => ?_)
  try dsimp only [List.set]
  walk_at "zz"
  rename_i t3 HG gG sG aG l3' HI gI sI aI
  have S6 : Same HA HI := by walk_at "sm"
  refine u_pe (RowsAt.one aI (sI _ _ aG)) (hLA.mono S6) (by show 1 ≤ 20; decide) (by omega) fm fl.fit (out_r o9) (fun HJ sJ => ?_)
  try dsimp only [List.set]
  walk_at "zz"
  refine u_pr ((hA.mono S6).mono sJ) ((hRA.mono S6).mono sJ) ff f1 k8 l1 (by omega) (fun HK sK => ?_)
  exact q _ (by walk_at "sm")
theorem c_law_many (L : Lw K mg) : Cal P w K mg base 7 "_law_many" (sp2 fs_ma) [] := by
  obtain ⟨fd, F⟩ := L.d_law_many
  exact ⟨⟨_, fd, ["first", "second"], [], ok_law_many L F, L.g_law_many, F.kp, F.bindsN (fun _ _ _ _ _ _ us hl => match us, hl with | [_, _], _ => rfl), .nil⟩⟩
end
end T
set_option maxHeartbeats 4000000
namespace T
open PySem PySem.Spec PyProof.Rows L2 Z
theorem z_p9 {H : Hp} {Q : VK} (q : Q (.int 1000000000) H) : zPow (.int 10) (.int 9) H Q := z_pow ⟨by decide, by decide, by decide⟩ q
theorem out_put_l {rs ss : List PQE} {r : PQE} {n : Nat} (b : ¬ okRow r) : ∃ o, outOf (rs.take n ++ [r] ++ rs.drop n) ss = some o := out_bad_l (r := r) (by simp) b
theorem out_put_r {rs ss : List PQE} {r : PQE} {n : Nat} (b : ¬ okRow r) : ∃ o, outOf ss (rs.take n ++ [r] ++ rs.drop n) = some o := out_bad_r (r := r) (by simp) b
def zCut (A B : TS) (D : Ends) (σ : L2.St) (H : Hp) : Prop := tSeq A B D σ H
theorem z_cutA {u : TT} {t B : TS} {D : Ends} {σ : L2.St} {H : Hp} (q : zCut (tIfS (tOr (tTest (tOp rEq (tVar 13) (tC (.int 1)))) u) t tNext) B D σ H) : tSeq (tIfS (tOr (tTest (tOp rEq (tVar 13) (tC (.int 1)))) u) t tNext) B D σ H := q
theorem z_cutB {t B : TS} {D : Ends} {σ : L2.St} {H : Hp} (q : zCut (tIfS (tTest (tOp zGt (tVar 13) (tC (.int 0)))) t tNext) B D σ H) : tSeq (tIfS (tTest (tOp zGt (tVar 13) (tC (.int 0)))) t tNext) B D σ H := q
theorem z_cut {A B : TS} {D : Ends} {σ : L2.St} {H : Hp} (I : L2.St → Hp → Prop) (h1 : ∀ σ' H', I σ' H' → B D σ' H') (h2 : ∀ R : L2.St → Hp → Prop, (∀ σ' H', I σ' H' → R σ' H') → A { D with nx := R } σ H) : zCut A B D σ H := h2 _ h1
theorem fit_put {rs : List PQE} {r : PQE} {n : Nat} (f : Fine rs) (h : FitR r) : ∀ x, x ∈ rs.take n ++ [r] ++ rs.drop n → FitR x := fun x hx => by
  rcases List.mem_append.mp hx with hx | hx
  · rcases List.mem_append.mp hx with hx | hx
    · exact (f x (List.mem_of_mem_take hx)).1
    · obtain rfl := List.mem_singleton.mp hx
      exact h
  · exact (f x (List.mem_of_mem_drop hx)).1
theorem len_put {rs : List PQE} {r : PQE} {n : Nat} (h : rs.length ≤ 8) : (rs.take n ++ [r] ++ rs.drop n).length ≤ 20 := by
  rw [List.length_append, List.length_append, List.length_take, List.length_drop]
  show min n rs.length + 1 + (rs.length - n) ≤ 20
  omega
theorem in4 {a b c d : Int} {k : Nat} {x : V} (h : [V.int a, V.int b, V.int c, V.int d][k]? = some x) : ∃ y : Int, x = .int y ∧ (y = a ∨ y = b ∨ y = c ∨ y = d) := by
  rcases k with _ | _ | _ | _ | k
  · exact ⟨a, (Option.some.inj h).symm, .inl rfl⟩
  · exact ⟨b, (Option.some.inj h).symm, .inr (.inl rfl)⟩
  · exact ⟨c, (Option.some.inj h).symm, .inr (.inr (.inl rfl))⟩
  · exact ⟨d, (Option.some.inj h).symm, .inr (.inr (.inr rfl))⟩
  · cases h
theorem root_sz {k B G : Nat} {g : Int} (hk : 1 ≤ k ∧ k ≤ 9 ∧ B = 400 ∧ G = 200 ∨ 64 ≤ k ∧ k ≤ 5000 ∧ B ≤ 802 ∧ G = 4) : B + (G * k + 1) ≤ 300000 ∧ B + (G * k + 1) ≤ 1000 * k ∧ G * k ≤ 200000 ∧ (B + (G * k + 1)) / k + 1 ≤ 8000 ∧ ((B + (G * k + 1)) / k + 1 + 1) * k ≤ 200000 := by
  have key : ((B + (G * k + 1)) / k) * k ≤ B + (G * k + 1) := Nat.div_mul_le_self _ _
  have e : ((B + (G * k + 1)) / k + 1 + 1) * k = ((B + (G * k + 1)) / k) * k + 2 * k := by grind
  have le : ∀ m, B + (G * k + 1) ≤ m * k → (B + (G * k + 1)) / k ≤ m := fun m h => Nat.div_le_of_le_mul (Nat.le_trans h (Nat.le_of_eq (Nat.mul_comm m k)))
  rcases hk with ⟨h1, h2, rfl, rfl⟩ | ⟨h1, h2, h3, rfl⟩
  · have := le 601 (by omega)
    refine ⟨by omega, by omega, by omega, by omega, ?_⟩
    rw [e]
    omega
  · have := le 20 (by omega)
    refine ⟨by omega, by omega, by omega, by omega, ?_⟩
    rw [e]
    omega
def ErO (K : Frag) (H : Hp) (x : V) (t b : Int) (k : Nat) : Prop := x = .non ∧ (¬ ∃ r s : Nat, (r : Int) ^ k = t ∧ (s : Int) ^ k = b) ∨ ∃ (a : Addr) (r s : Nat), x = .ref a ∧ (r : Int) ^ k = t ∧ (s : Int) ^ k = b ∧ Fr K H a r s
theorem u_er {K : Frag} {H : Hp} {Q : VK} {E : XK} {p : Addr} {t b : Int} {k B : Nat} (hr : IsR K H p t b) (b0 : 0 < b) (gg : Int.gcd t b = 1) (t0 : 0 ≤ t) (k1 : 1 ≤ k) (k2 : k ≤ 5000) (bt : Bits B t) (bb : Bits B b) (hB : B ≤ 1000) (q : ∀ x H', Same H H' → ErO K H' x t b k → Q x H') : sp2 (fs_er K) [.ref p, .int (k : Int)] H Q E :=
  ⟨_, _, rfl, p, t, b, (k : Int), B, rfl, rfl, hr, b0, gg, fun z => absurd z (by omega), fun _ z => absurd (show 1 ≤ (k : Int) ∧ (k : Int) ≤ 5000 by omega) z, fun _ _ _ => ⟨bt, bb, by omega, by show B ≤ 1000 * k; omega, fun ne => q _ _ (fun _ _ h => h) (.inl ⟨rfl, ne⟩), fun z r s H' ss e1 e2 hz => q _ _ ss (.inr ⟨z, r, s, rfl, e1, e2, hz⟩)⟩⟩
theorem u_lx {K : Frag} {H : Hp} {Q : VK} {E : XK} {x : V} {T w t b : Int} {k B : Nat} (k1 : 1 ≤ k) (k2 : k ≤ 5000) (T0 : 0 ≤ T) (w0 : 0 < w) (b0 : 0 < b) (e : t * w = T * b) (gg : Int.gcd t b = 1) (bT : Bits B T) (bw : Bits B w) (B1 : 1 ≤ B) (B8 : B ≤ 8000) (h : ErO K H x t b k) (q : Q (.bl true) H) : sp4 (fs_lx K) [x, .int T, .int w, .int (k : Int)] H Q E :=
  ⟨_, _, _, _, rfl, T, w, t, b, k, B, rfl, rfl, rfl, k1, T0, w0, b0, e, gg, bT, bw, B1, B8, k2, h, q⟩
theorem grain_sz {k B : Nat} {g sz : Int} (hk : 1 ≤ k ∧ k ≤ 9 ∧ sz < 7 ∨ 64 ≤ k ∧ k ≤ 5000 ∧ sz = 7) (hB : B = 400 ∨ 64 ≤ k ∧ B = 802) (g0 : 1 ≤ g) (g1 : g ≤ 1000000000000000000000000000000000000000000000000000000000000) (g9 : 9 < k → g ≤ 12) :
    ∃ G : Nat, Bits G g ∧ 1 ≤ G ∧ G ≤ 200 ∧ (1 ≤ k ∧ k ≤ 9 ∧ B = 400 ∧ G = 200 ∨ 64 ≤ k ∧ k ≤ 5000 ∧ B ≤ 802 ∧ G = 4) := by
  rcases hk with ⟨k1, k2, _⟩ | ⟨k1, k2, _⟩
  · exact ⟨200, Bits.le (a := 200) (j := 1000000000000000000000000000000000000000000000000000000000000) (by unfold Bits; decide) (by omega), by omega, by omega, .inl ⟨k1, k2, by omega, rfl⟩⟩
  · have := g9 (by omega)
    exact ⟨4, Bits.small (n := 4) (by show -(16 : Int) < g; omega) (by show g < (16 : Int); omega), by omega, by omega, .inr ⟨k1, k2, by omega, rfl⟩⟩
theorem bnat {r D : Nat} (h : (r : Int) < 2 ^ D) : Bits D (r : Int) := by
  unfold Bits
  have e := two_cast D
  omega
local macro_rules | `(tactic| walk_at "up") => `(tactic| first
  | assumption
  | (refine' IsR.mono (by assumption) ?zup; case zup => walk_at "up")
  | (refine' IsE.mono (by assumption) ?zup; case zup => walk_at "up")
  | (refine' Same.at (by assumption) ?zup; case zup => walk_at "up")
  | (refine' SqL.of ?zup; case zup => walk_at "up")
  | (refine' L2.Same.seq (by assumption) ?zup; case zup => walk_at "up"))
local macro_rules | `(tactic| walk_at "z") => `(tactic| first
  | ((with_reducible refine' z_var ?zvh ?_); (case zvh => exact rfl))
  | with_reducible refine z_c ?_
  | with_reducible refine z_cons ?_
  | with_reducible refine z_nil ?_
  | with_reducible refine z_op ?_
  | with_reducible refine z_nx ?_
  | with_reducible refine z_seq ?_
  | with_reducible refine z_asg ?_
  | with_reducible refine z_asgG ?_
  | with_reducible refine z_call ?_
  | with_reducible refine z_sq0 ?_
  | with_reducible refine z_sq1 ?_
  | with_reducible refine z_ifS ?_
  | with_reducible refine z_test ?_
  | with_reducible refine z_tb ?_
  | with_reducible refine z_bl ?_
  | with_reducible refine z_blI ?_
  | with_reducible refine z_ret ?_
  | with_reducible refine z_rt ?_
  | with_reducible refine z_T ?_
  | with_reducible refine z_F ?_
  | with_reducible refine z_add ?_
  | with_reducible refine z_sub ?_
  | with_reducible refine z_neg ?_
  | with_reducible refine z_un ?_
  | with_reducible refine z_eqI ?_
  | with_reducible refine z_neI ?_
  | with_reducible refine z_lt ?_
  | with_reducible refine z_le ?_
  | with_reducible refine z_gt ?_
  | with_reducible refine z_ge ?_
  | with_reducible refine z_not ?_
  | with_reducible refine z_and ?_
  | with_reducible refine z_or ?_
  | with_reducible refine z_andV ?_
  | with_reducible refine z_orV ?_
  | with_reducible refine z_notV ?_
  | with_reducible refine z_if ?_
  | with_reducible refine z_cb ?_
  | with_reducible refine z_int1 ?_
  | with_reducible refine z_intb ?_
  | with_reducible refine z_abs ?_
  | with_reducible refine z_gcd ?_
  | with_reducible refine z_isi_ii ?_
  | with_reducible refine z_isi_ib ?_
  | with_reducible refine z_next ?_
  | with_reducible refine z_drop ?_
  | with_reducible refine z_par ?_
  | with_reducible refine z_par2 ?_
  | with_reducible refine z_tupN ?_
  | with_reducible refine z_lstN ?_
  | ((with_reducible refine' z_nt ?zl1 ?_); (case zl1 => exact Nat.le_of_ble_eq_true rfl); intro p H' hp hs he)
  | ((with_reducible refine' z_gtup ?zl1 ?zl2 ?_); (case zl1 => walk_at "up"); (case zl2 => exact rfl))
  | with_reducible refine z_bk ?_
  | with_reducible refine z_ct ?_
  | with_reducible refine z_break ?_
  | with_reducible refine z_cont ?_
  | with_reducible refine z_retN ?_
  | with_reducible refine z_nn ?_
  | with_reducible refine z_mk ?_
  | with_reducible refine z_gn ?_
  | with_reducible refine z_gcons ?_
  | with_reducible refine z_gnil ?_
  | with_reducible refine z_mt ?_
  | with_reducible refine z_mko ?_
  | with_reducible refine z_for2 ?_
  | with_reducible refine z_ownI ?_
  | ((with_reducible refine' z_lenL ?zl1 ?_); (case zl1 => walk_at "up"))
  | ((with_reducible refine' z_ixT ?zl1 ?zl2 ?_); (case zl1 => walk_at "up"); (case zl2 => exact rfl))
  | ((with_reducible refine' z_mulL ?zl1 ?zl2 ?_); (case zl1 => omega); (case zl2 => omega))
  | ((with_reducible refine' z_mulR ?zl1 ?zl2 ?_); (case zl1 => omega); (case zl2 => omega))
  | ((with_reducible refine' z_divS ?zl1 ?zl2 ?_); (case zl1 => omega); (case zl2 => omega))
  | ((with_reducible refine' z_mulW ?zl1 ?zl2 ?zl3 ?zl4 ?_); (case zl1 => omega); (case zl2 => omega); (case zl3 => omega); (case zl4 => omega))
  | ((with_reducible refine' z_divW ?zl1 ?zl2 ?_); (case zl1 => omega); (case zl2 => omega)))
local macro_rules | `(tactic| walk_at "zz") => `(tactic| repeat (walk_at "z"))
local macro_rules | `(tactic| walk_at "z") => `(tactic| with_reducible refine z_lstN ?_)
local macro_rules | `(tactic| walk_at "z") => `(tactic| with_reducible refine z_p6 ?_)
local macro_rules | `(tactic| walk_at "z") => `(tactic| with_reducible refine z_p12 ?_)
local macro_rules | `(tactic| walk_at "z") => `(tactic| with_reducible refine z_p13 ?_)
local macro_rules | `(tactic| walk_at "z") => `(tactic| with_reducible refine z_calln ?_)
local macro_rules | `(tactic| walk_at "z") => `(tactic| with_reducible refine z_xfS ?_)
local macro_rules | `(tactic| walk_at "z") => `(tactic| with_reducible refine z_lcS ?_)
local macro_rules | `(tactic| walk_at "z") => `(tactic| with_reducible refine z_lcRS ?_)
local macro_rules | `(tactic| walk_at "z") => `(tactic| with_reducible refine z_lcZS ?_)
local macro_rules | `(tactic| walk_at "z") => `(tactic| with_reducible refine z_foS ?_)
local macro_rules | `(tactic| walk_at "z") => `(tactic| with_reducible refine z_for1 ?_)
local macro_rules | `(tactic| walk_at "z") => `(tactic| with_reducible refine z_tsl ?_)
local macro_rules | `(tactic| walk_at "z") => `(tactic| with_reducible refine z_np ?_)
local macro_rules | `(tactic| walk_at "z") => `(tactic| with_reducible refine z_pt ?_)
local macro_rules | `(tactic| walk_at "z") => `(tactic| with_reducible refine z_pti ?_)
local macro_rules | `(tactic| walk_at "z") => `(tactic| with_reducible refine z_catI ?_)
local macro_rules | `(tactic| walk_at "z") => `(tactic| with_reducible refine z_isNI ?_)
local macro_rules | `(tactic| walk_at "z") => `(tactic| with_reducible refine z_isNN ?_)
local macro_rules | `(tactic| walk_at "z") => `(tactic| with_reducible refine z_notNI ?_)
local macro_rules | `(tactic| walk_at "z") => `(tactic| with_reducible refine z_notNN ?_)
local macro_rules | `(tactic| walk_at "z") => `(tactic| with_reducible refine z_gsub ?_)
local macro_rules | `(tactic| walk_at "z") => `(tactic| with_reducible refine z_isNb ?_)
local macro_rules | `(tactic| walk_at "z") => `(tactic| with_reducible refine z_notNb ?_)
local macro_rules | `(tactic| walk_at "z") => `(tactic| ((with_reducible refine' z_nlR ?zl1 ?_); (case zl1 => exact Nat.le_of_ble_eq_true rfl); intro p H' hp hs he))
local macro_rules | `(tactic| walk_at "z") => `(tactic| ((with_reducible refine' z_repR ?zl1 ?zl2 ?_); (case zl1 => omega); (case zl2 => omega)))
local macro_rules | `(tactic| walk_at "z") => `(tactic| ((with_reducible refine' z_repL ?zl1 ?zl2 ?_); (case zl1 => omega); (case zl2 => omega)))
local macro_rules | `(tactic| walk_at "z") => `(tactic| ((with_reducible refine' z_lenLst ?zl1 ?_); (case zl1 => walk_at "up")))
local macro_rules | `(tactic| walk_at "z") => `(tactic| ((with_reducible refine' z_cat ?zl1 ?zl2 ?zl3 ?_); (case zl1 => walk_at "up"); (case zl2 => walk_at "up"); (case zl3 => (simp only [List.length_map, List.length_cons, List.length_nil, List.length_append, List.length_replicate]; omega)); intro p H' hp hs he))
local macro_rules | `(tactic| walk_at "z") => `(tactic| with_reducible refine z_sfl ?_)
local macro_rules | `(tactic| walk_at "z") => `(tactic| with_reducible refine z_lcES ?_)
local macro_rules | `(tactic| walk_at "z") => `(tactic| with_reducible refine z_lcMS ?_)
local macro_rules | `(tactic| walk_at "z") => `(tactic| with_reducible refine z_foES ?_)
local macro_rules | `(tactic| walk_at "z") => `(tactic| with_reducible refine z_fo3S ?_)
local macro_rules | `(tactic| walk_at "z") => `(tactic| with_reducible refine z_sta ?_)
local macro_rules | `(tactic| walk_at "z") => `(tactic| with_reducible refine z_sta1 ?_)
local macro_rules | `(tactic| walk_at "z") => `(tactic| with_reducible refine z_lcTS ?_)
local macro_rules | `(tactic| walk_at "z") => `(tactic| with_reducible refine z_foTS ?_)
local macro_rules | `(tactic| walk_at "z") => `(tactic| with_reducible refine z_revTS ?_)
local macro_rules | `(tactic| walk_at "z") => `(tactic| with_reducible refine z_max2 ?_)
local macro_rules | `(tactic| walk_at "z") => `(tactic| ((with_reducible refine' z_fldt ?zc1 ?zc2 ?zl1 ?zl2 ?_); (case zc1 => exact Lw.cl_Ratio (by assumption)); (case zc2 => exact Lw.na_Ratio_top (by assumption)); (case zl1 => exact rfl); (case zl2 => walk_at "up")))
local macro_rules | `(tactic| walk_at "z") => `(tactic| ((with_reducible refine' z_fldb ?zc1 ?zc2 ?zl1 ?zl2 ?_); (case zc1 => exact Lw.cl_Ratio (by assumption)); (case zc2 => exact Lw.na_Ratio_bottom (by assumption)); (case zl1 => exact rfl); (case zl2 => walk_at "up")))
local macro_rules | `(tactic| walk_at "z") => `(tactic| ((with_reducible refine' u_mtF ?zl1 ?_); (case zl1 => walk_at "up")))
local macro_rules | `(tactic| walk_at "z") => `(tactic| ((with_reducible refine' z_ixLst ?zl1 ?zl2 ?_); (case zl1 => walk_at "up"); (case zl2 => exact rfl)))
local macro_rules | `(tactic| walk_at "z") => `(tactic| with_reducible refine z_for3 ?_)
local macro_rules | `(tactic| walk_at "z") => `(tactic| with_reducible refine z_tbits ?_)
local macro_rules | `(tactic| walk_at "z") => `(tactic| with_reducible refine z_tbi ?_)
local macro_rules | `(tactic| walk_at "z") => `(tactic| ((with_reducible refine' z_div2S ?zl1 ?zl2 ?_); (case zl1 => omega); (case zl2 => omega)))
local macro_rules | `(tactic| walk_at "z") => `(tactic| with_reducible refine u_who ?_)
local macro_rules | `(tactic| walk_at "z") => `(tactic| with_reducible refine z_asg2 ?_)
local macro_rules | `(tactic| walk_at "z") => `(tactic| ((with_reducible refine' u_cell ?zl1 ?zl2 ?_); (case zl1 => walk_at "up"); (case zl2 => omega); intro c))
local macro_rules | `(tactic| walk_at "z") => `(tactic| ((with_reducible refine' u_mod ?zl1 ?_); (case zl1 => omega)))
local macro_rules | `(tactic| walk_at "z") => `(tactic| with_reducible refine z_p9 ?_)
local macro_rules | `(tactic| walk_at "z") => `(tactic| with_reducible refine z_p60b ?_)
local macro_rules | `(tactic| walk_at "z") => `(tactic| with_reducible refine z_cutA ?_)
local macro_rules | `(tactic| walk_at "z") => `(tactic| with_reducible refine z_cutB ?_)
theorem same02n {H H1 H2 : Hp} (h : Same H1 H2) (e : Same H H1) : Same H H2 := e.trans h
local macro_rules | `(tactic| walk_at "sm") => `(tactic| first
  | assumption
  | exact fun _ _ h => h
  | (refine' same02n (by assumption) ?zsm; case zsm => walk_at "sm"))
local macro_rules | `(tactic| walk_at "up") => `(tactic| first
  | assumption
  | (with_reducible refine' IsR.mono (by assumption) ?zup; case zup => walk_at "up")
  | (with_reducible refine' Fr.mono (by assumption) ?zup; case zup => walk_at "up")
  | (with_reducible refine' Same.at (by assumption) ?zup; case zup => walk_at "up")
  | (with_reducible refine' Facs.mono (by assumption) ?zup; case zup => walk_at "up")
  | (with_reducible refine' IsPool.mono (by assumption) ?zup; case zup => walk_at "up")
  | (with_reducible refine' RowsAt.mono (by assumption) ?zup; case zup => walk_at "up")
  | (with_reducible refine' FacL.mono (by assumption) ?zup; case zup => walk_at "up")
  | fail)
section
variable {P : Program} {w : World} {K : Frag} {mg : Str → Option Value} {base : Heap}
theorem ck_root_below_0_grain_k_ratio (L : Lw K mg) : CalK P w K mg base 4 "root_below" (sp3 (fs_rb K)) 0 ["grain", "k", "ratio"] (fun vs zs => vs ++ zs.reverse) := by
  obtain ⟨fd, F⟩ := L.d_root_below
  exact ⟨⟨_, fd, ["ratio", "k", "grain"], _, ok_root_below L F, L.g_root_below, F.kp, (kbN F (ps := ["ratio", "k", "grain"]) 0 ["grain", "k", "ratio"] (fun _ _ _ _ _ _ us ws hl hw => match us, ws, hl, hw with | [], [_, _, _], _, _ => rfl))⟩⟩
theorem ok_law (L : Lw K mg) {fd : FuncData} (F : FunD K "law" "law" (defArgs s_law) (defBody s_law) (defScope s_law) (df_law.dvs K) (df_law.kws K) (He.fAd K ("law", none)) fd) : FnOk P w K mg base (L2N.CX P w) 8 (He.fAd K ("law", none)) fd (["script"] : List Str) (sp1 (fs_law K)) := by
  refine FunD.ok F sc_law len1 (fun cdv A outer s H vs Q E hr h => ?_)
  obtain ⟨a, rfl, h⟩ := h
  refine ⟨_, (pss_cons (ps_set (i := 0) sc_law.nd rfl (by first | exact Or.inl rfl | exact Or.inr rfl) (pe_slice (slK rSlL (K := K) rfl sl_list) (pv 0) po_none (po_some pe_int)))
    (pss_cons (ps_set (i := 1) sc_law.nd rfl (by first | exact Or.inl rfl | exact Or.inr rfl) (pe_c (c_law_mod (K := K) L) hr (by decide) (L2N.takes_of rfl rfl rfl rfl) (pa_cons (pe_c (c_law_cell (K := K) L) hr (by decide) (L2N.takes_of rfl rfl rfl rfl) (pa_cons (pv 0) (pa_cons pe_int pa_nil))) (pa_cons pe_int pa_nil))))
    (pss_cons (ps_set (i := 2) sc_law.nd rfl (by first | exact Or.inl rfl | exact Or.inr rfl) (pe_c (c_law_exponent (K := K) L) hr (by decide) (L2N.takes_of rfl rfl rfl rfl) (pa_cons (pv 0) (pa_cons (pv 1) pa_nil))))
    (pss_cons (ps_set (i := 3) sc_law.nd rfl (by first | exact Or.inl rfl | exact Or.inr rfl) (pe_c (c_law_fraction (K := K) L) hr (by decide) (L2N.takes_of rfl rfl rfl rfl) (pa_cons (pv 0) (pa_cons (pv 1) (pa_cons (pv 2) pa_nil)))))
    (pss_cons (ps_set (i := 4) sc_law.nd rfl (by first | exact Or.inl rfl | exact Or.inr rfl) (pe_c (c_law_grain (K := K) L) hr (by decide) (L2N.takes_of rfl rfl rfl rfl) (pa_cons (pv 0) (pa_cons (pv 1) (pa_cons (pv 2) pa_nil)))))
    (pss_cons (ps_set (i := 5) sc_law.nd rfl (by first | exact Or.inl rfl | exact Or.inr rfl) (pe_ix (ix_seqK (K := K) rfl) (pv 3) pe_int (fun _ _ => rfl)))
    (pss_cons (ps_set (i := 6) sc_law.nd rfl (by first | exact Or.inl rfl | exact Or.inr rfl) (pe_ix (ix_seqK (K := K) rfl) (pv 3) pe_int (fun _ _ => rfl)))
    (pss_cons (ps_set (i := 7) sc_law.nd rfl (by first | exact Or.inl rfl | exact Or.inr rfl) (pe_mk (c_RatioD_initD (K := K) L) hr (by decide) (L2N.takes_of rfl rfl rfl rfl) (pa_cons (pv 5) (pa_cons (pv 6) pa_nil))))
    (pss_cons (ps_set (i := 8) sc_law.nd rfl (by first | exact Or.inl rfl | exact Or.inr rfl) (pe_c (c_root_below (K := K) L) hr (by decide) (L2N.takes_of rfl rfl rfl rfl) (pa_cons (pv 7) (pa_cons (pv 2) (pa_cons (pv 4) pa_nil)))))
    (pss_cons (ps_if (pt_not (pt_val (pe_c (c_law_below (K := K) L) hr (by decide) (L2N.takes_of rfl rfl rfl rfl) (pa_cons (pv 8) (pa_cons (pv 5) (pa_cons (pv 6) (pa_cons (pv 2) (pa_cons (pv 4) pa_nil)))))))) (pss_one (ps_ret pe_bl)) pss_nil)
    (pss_cons (ps_if (pt_not (pt_val (pe_c (c_law_below (K := K) L) hr (by decide) (L2N.takes_of rfl rfl rfl rfl) (pa_cons (pe_ck0 (ck_root_below_0_grain_k_ratio (K := K) L) hr (by decide) passF (pk_cons pe_int (pk_cons (pv 2) (pk_cons (pv 7) pk_nil)))) (pa_cons (pv 5) (pa_cons (pv 6) (pa_cons (pv 2) (pa_cons pe_int pa_nil)))))))) (pss_one (ps_ret pe_bl)) pss_nil)
    (pss_cons (ps_if (pt_not (pt_val (pe_c (c_law_exact (K := K) L) hr (by decide) (L2N.takes_of rfl rfl rfl rfl) (pa_cons (pe_c (c_exact_root (K := K) L) hr (by decide) (L2N.takes_of rfl rfl rfl rfl) (pa_cons (pv 7) (pa_cons (pv 2) pa_nil))) (pa_cons (pv 5) (pa_cons (pv 6) (pa_cons (pv 2) pa_nil))))))) (pss_one (ps_ret pe_bl)) pss_nil)
    (pss_cons (ps_if (pt_not (pt_val (pe_c (c_law_exact (K := K) L) hr (by decide) (L2N.takes_of rfl rfl rfl rfl) (pa_cons (pe_c (c_exact_root (K := K) L) hr (by decide) (L2N.takes_of rfl rfl rfl rfl) (pa_cons (pv 7) (pa_cons pe_int pa_nil))) (pa_cons (pv 5) (pa_cons (pv 6) (pa_cons pe_int pa_nil))))))) (pss_one (ps_ret pe_bl)) pss_nil)
    (pss_cons (ps_set (i := 9) sc_law.nd rfl (by first | exact Or.inl rfl | exact Or.inr rfl) (pe_op o_cat pe_int (pe_c (c_law_mod (K := K) L) hr (by decide) (L2N.takes_of rfl rfl rfl rfl) (pa_cons (pe_c (c_law_cell (K := K) L) hr (by decide) (L2N.takes_of rfl rfl rfl rfl) (pa_cons (pv 0) (pa_cons pe_int pa_nil))) (pa_cons (pe_op o_pow pe_int pe_int) pa_nil)))))
    (pss_cons (ps_for (passes_of rfl) rfl (pi_listK (K := K) rfl (pe_lst (pa_cons pe_int (pa_cons pe_int (pa_cons (pe_un o_neg (pv 9)) (pa_cons (pe_op o_cat pe_int (pv 9)) pa_nil)))))) (pg_name (i := 10) sc_law.nd rfl (by first | exact Or.inl rfl | exact Or.inr rfl)) (pss_cons (ps_if (pt_not (pt_val (pe_c (c_law_root_error (K := K) L) hr (by decide) (L2N.takes_of rfl rfl rfl rfl) (pa_cons (pv 7) (pa_cons (pv 10) (pa_cons pe_int (pa_cons (pv 10) pa_nil))))))) (pss_one (ps_ret pe_bl)) pss_nil)
    (pss_one (ps_if (pt_not (pt_val (pe_c (c_law_exact_error (K := K) L) hr (by decide) (L2N.takes_of rfl rfl rfl rfl) (pa_cons (pv 7) (pa_cons (pv 10) pa_nil))))) (pss_one (ps_ret pe_bl)) pss_nil))))
    (pss_cons (ps_for (passes_of rfl) rfl (pi_listK (K := K) rfl (pe_lst (pa_cons pe_int (pa_cons (pe_op o_cat (pe_op o_pow pe_int pe_int) pe_int) (pa_cons (pe_un o_neg (pv 9)) (pa_cons (pe_op o_cat (pe_op o_pow pe_int pe_int) (pv 9)) pa_nil)))))) (pg_name (i := 10) sc_law.nd rfl (by first | exact Or.inl rfl | exact Or.inr rfl)) (pss_one (ps_if (pt_not (pt_val (pe_c (c_law_root_error (K := K) L) hr (by decide) (L2N.takes_of rfl rfl rfl rfl) (pa_cons (pv 7) (pa_cons (pv 2) (pa_cons (pv 10) (pa_cons (pv 10) pa_nil))))))) (pss_one (ps_ret pe_bl)) pss_nil)))
    (pss_cons (ps_if (pt_not (pt_val (pe_c (c_law_negative (K := K) L) hr (by decide) (L2N.takes_of rfl rfl rfl rfl) (pa_cons (pe_op o_sub (pe_un o_neg pe_int) (pv 5)) (pa_cons (pv 6) (pa_cons (pv 2) (pa_cons (pv 4) pa_nil))))))) (pss_one (ps_ret pe_bl)) pss_nil)
    (pss_cons (ps_if (PW.pt (pw_or (pt_not (pt_val (pe_c (c_law_negative (K := K) L) hr (by decide) (L2N.takes_of rfl rfl rfl rfl) (pa_cons (pe_un o_neg (pv 9)) (pa_cons (pv 6) (pa_cons pe_int (pa_cons pe_int pa_nil))))))) (pw_or1 (pt_not (pt_val (pe_c (c_law_negative (K := K) L) hr (by decide) (L2N.takes_of rfl rfl rfl rfl) (pa_cons (pe_un o_neg (pv 9)) (pa_cons (pv 6) (pa_cons pe_int (pa_cons pe_int pa_nil)))))))))) (pss_one (ps_ret pe_bl)) pss_nil)
    (pss_cons (ps_set (i := 11) sc_law.nd rfl (by first | exact Or.inl rfl | exact Or.inr rfl) (pe_c (c_law_rows (K := K) L) hr (by decide) (L2N.takes_of rfl rfl rfl rfl) (pa_cons (pv 0) (pa_cons pe_int (pa_cons (pv 1) pa_nil)))))
    (pss_cons (ps_set (i := 12) sc_law.nd rfl (by first | exact Or.inl rfl | exact Or.inr rfl) (pe_c (c_law_rows (K := K) L) hr (by decide) (L2N.takes_of rfl rfl rfl rfl) (pa_cons (pv 0) (pa_cons pe_int (pa_cons (pv 1) pa_nil)))))
    (pss_cons (ps_set (i := 13) sc_law.nd rfl (by first | exact Or.inl rfl | exact Or.inr rfl) (pe_c (c_law_mod (K := K) L) hr (by decide) (L2N.takes_of rfl rfl rfl rfl) (pa_cons (pe_c (c_law_cell (K := K) L) hr (by decide) (L2N.takes_of rfl rfl rfl rfl) (pa_cons (pv 0) (pa_cons pe_int pa_nil))) (pa_cons pe_int pa_nil))))
    (pss_cons (ps_if (PW.pt (pw_or (pt_cmpR op_eq (pv 13) pe_int (nomark _)) (pw_or1 (pt_cmpR op_eq (pv 13) pe_int (nomark _))))) (pss_one (ps_set (i := 11) sc_law.nd rfl (by first | exact Or.inl rfl | exact Or.inr rfl) (pe_slice (slK rSlL (K := K) rfl sl_list) (pv 11) po_none (po_some pe_int)))) pss_nil)
    (pss_cons (ps_if (pt_cmpR o_gt (pv 13) pe_int (nomark _)) (pss_one (ps_set (i := 12) sc_law.nd rfl (by first | exact Or.inl rfl | exact Or.inr rfl) (pe_c (c_law_turned (K := K) L) hr (by decide) (L2N.takes_of rfl rfl rfl rfl) (pa_cons (pv 11) (pa_cons (pv 13) (pa_cons (pe_op o_cat pe_int (pe_c (c_law_mod (K := K) L) hr (by decide) (L2N.takes_of rfl rfl rfl rfl) (pa_cons (pe_c (c_law_cell (K := K) L) hr (by decide) (L2N.takes_of rfl rfl rfl rfl) (pa_cons (pv 0) (pa_cons pe_int pa_nil))) (pa_cons pe_int pa_nil)))) pa_nil)))))) pss_nil)
    (pss_cons (ps_if (pt_not (pt_val (pe_c (c_law_products (K := K) L) hr (by decide) (L2N.takes_of rfl rfl rfl rfl) (pa_cons (pv 11) (pa_cons (pv 12) pa_nil))))) (pss_one (ps_ret pe_bl)) pss_nil)
    (pss_cons (ps_set (i := 10) sc_law.nd rfl (by first | exact Or.inl rfl | exact Or.inr rfl) (pe_c (c_law_put (K := K) L) hr (by decide) (L2N.takes_of rfl rfl rfl rfl) (pa_cons (pe_slice (slK rSlL (K := K) rfl sl_list) (pv 12) po_none (po_some pe_int)) (pa_cons (pe_c (c_law_cell (K := K) L) hr (by decide) (L2N.takes_of rfl rfl rfl rfl) (pa_cons (pv 0) (pa_cons pe_int pa_nil))) (pa_cons (pe_c (c_law_odd (K := K) L) hr (by decide) (L2N.takes_of rfl rfl rfl rfl) (pa_cons (pv 0) (pa_cons pe_int pa_nil))) pa_nil)))))
    (pss_cons (ps_if (PW.pt (pw_or (pt_not (pt_val (pe_c (c_law_product_error (K := K) L) hr (by decide) (L2N.takes_of rfl rfl rfl rfl) (pa_cons (pv 11) (pa_cons (pv 10) pa_nil))))) (pw_or1 (pt_not (pt_val (pe_c (c_law_product_error (K := K) L) hr (by decide) (L2N.takes_of rfl rfl rfl rfl) (pa_cons (pv 10) (pa_cons (pv 12) pa_nil)))))))) (pss_one (ps_ret pe_bl)) pss_nil)
    (pss_cons (ps_set (i := 14) sc_law.nd rfl (by first | exact Or.inl rfl | exact Or.inr rfl) (pe_c (c_law_put (K := K) L) hr (by decide) (L2N.takes_of rfl rfl rfl rfl) (pa_cons (pv 11) (pa_cons (pe_c (c_law_cell (K := K) L) hr (by decide) (L2N.takes_of rfl rfl rfl rfl) (pa_cons (pv 0) (pa_cons pe_int pa_nil))) (pa_cons (pe_c (c_law_odd (K := K) L) hr (by decide) (L2N.takes_of rfl rfl rfl rfl) (pa_cons (pv 0) (pa_cons pe_int pa_nil))) pa_nil)))))
    (pss_cons (ps_if (PW.pt (pw_or (pt_not (pt_val (pe_c (c_law_product_error (K := K) L) hr (by decide) (L2N.takes_of rfl rfl rfl rfl) (pa_cons (pv 14) (pa_cons (pv 10) pa_nil))))) (pw_or1 (pt_not (pt_val (pe_c (c_law_product_error (K := K) L) hr (by decide) (L2N.takes_of rfl rfl rfl rfl) (pa_cons (pv 10) (pa_cons (pv 14) pa_nil)))))))) (pss_one (ps_ret pe_bl)) pss_nil)
    (pss_cons (ps_if (PW.pt (pw_or (pt_not (pt_val (pe_c (c_law_heavy (K := K) L) hr (by decide) (L2N.takes_of rfl rfl rfl rfl) (pa_cons (pv 0) (pa_cons (pv 1) pa_nil))))) (pw_or1 (pt_not (pt_val (pe_c (c_law_many (K := K) L) hr (by decide) (L2N.takes_of rfl rfl rfl rfl) (pa_cons (pv 11) (pa_cons (pv 12) pa_nil)))))))) (pss_one (ps_ret pe_bl)) pss_nil)
    (pss_one (ps_ret (pe_and (pe_c (c_law_products (K := K) L) hr (by decide) (L2N.takes_of rfl rfl rfl rfl) (pa_cons (pv 11) (pa_cons (pv 12) pa_nil))) (pe_one (pe_c (c_law_is (K := K) L) hr (by decide) (L2N.takes_of rfl rfl rfl rfl) (pa_cons (pv 7) (pa_cons (pv 5) (pa_cons (pv 6) pa_nil))))))))))))))))))))))))))))))))))))), ?_⟩
  rw [show L2.start (["script", "size", "k", "pair", "grain", "top", "bottom", "ratio", "told", "far", "wrong", "first", "second", "kind", "both"] : List Str) [a] = [some a, none, none, none, none, none, none, none, none, none, none, none, none, none, none] from rfl]
  obtain ⟨p, ns, rfl, hS, hl, q⟩ := h
  try dsimp only [List.set]
  walk_at "zz"
  refine ⟨p, _, rfl, hS, fun c hc => ?_⟩
  rw [cut63 hl]
  have hp : IsPool (upd H c (.lst (ns.map V.int))) c := ⟨ns, upd_same⟩
  generalize upd H c (.lst (ns.map V.int)) = H0 at *
  try dsimp only [List.set]
  walk_at "zz"
  rename_i sz0
  have z0 : 0 ≤ sz0 % 8 ∧ sz0 % 8 ≤ 7 := by omega
  generalize sz0 % 8 = sz at *
  refine ⟨_, _, rfl, c, sz, rfl, rfl, hp, z0.1, z0.2, fun k H1 s1 hk => ?_⟩
  have hp1 := hp.mono s1
  try dsimp only [List.set]
  walk_at "zz"
  refine ⟨_, _, _, rfl, c, sz, k, rfl, rfl, rfl, hp1, z0.1, z0.2, hk, fun pa T w B H2 s2 hpa T0 w0 bT bw hB => ?_⟩
  have hp2 := hp1.mono s2
  try dsimp only [List.set]
  walk_at "zz"
  refine ⟨_, _, _, rfl, c, sz, k, rfl, rfl, rfl, hp2, z0.1, z0.2, fun g H3 s3 g0 g1 g9 => ?_⟩
  have hp3 := hp2.mono s3
  have hpa3 := s3 _ _ hpa
  try dsimp only [List.set]
  walk_at "zz"
  refine u_mkF w0 (bw.up (by omega)) rfl (fun pr H4 s4 hF => ?_)
  have hp4 := hp3.mono s4
  have k1 : 1 ≤ k ∧ k ≤ 5000 := by omega
  obtain ⟨G, bg, G1, G2, hG⟩ := grain_sz hk hB g0 g1 g9
  have rz := root_sz (g := g) hG
  try dsimp only [List.set]
  walk_at "zz"
  refine ⟨_, _, _, rfl, pr, T, w, (k : Int), g, B, G, rfl, rfl, rfl, hF, w0, fun z => absurd z (by omega), fun _ z => absurd (show 1 ≤ (k : Int) ∧ (k : Int) ≤ 5000 by omega) z, fun _ _ _ z => absurd (show 1 ≤ g ∧ g ≤ 1000000000000000000000000000000000000000000000000000000000000 by omega) z, fun _ _ _ _ _ => ⟨bT, bw, by omega, bg, by omega, rz.1, rz.2.1, fun so r H5 s5 hs lo hi hr => ?_⟩⟩
  have lo : (r : Int) ^ k * w ≤ T * g ^ k := lo
  have hi : T * g ^ k < ((r : Int) + 1) ^ k * w := hi
  have hr : Bits ((B + (G * k + 1)) / k + 1) (r : Int) := bnat hr
  try dsimp only [List.set]
  walk_at "zz"
  refine ⟨_, _, _, _, _, rfl, so, T, w, g, r, k, B, G, _, rfl, rfl, rfl, rfl, rfl, hs, by omega, w0, lo, hi, bT, bw, bg, hr, by omega, by omega, Nat.succ_pos _, rz.2.2.2.1, rz.2.2.1, rz.2.2.2.2, ?_⟩
  try dsimp only [List.set]
  walk_at "zz"
  have hF5 := hF.mono s5
  have b1 : Bits G (1 : Int) := Bits.up (Bits.small (n := 1) (by decide) (by decide)) G1
  refine ⟨rfl, rfl, _, _, _, rfl, pr, T, w, (k : Int), (1 : Int), B, G, rfl, rfl, rfl, hF5, w0, fun z => absurd z (by omega), fun _ z => absurd (show 1 ≤ (k : Int) ∧ (k : Int) ≤ 5000 by omega) z, fun _ _ _ z => absurd (show 1 ≤ (1 : Int) ∧ (1 : Int) ≤ 1000000000000000000000000000000000000000000000000000000000000 by omega) z, fun _ _ _ _ _ => ⟨bT, bw, by omega, b1, by omega, rz.1, rz.2.1, fun so2 r H6 s6 hs lo hi hr => ?_⟩⟩
  have lo : (r : Int) ^ k * w ≤ T * (1 : Int) ^ k := lo
  have hi : T * (1 : Int) ^ k < ((r : Int) + 1) ^ k * w := hi
  have hr : Bits ((B + (G * k + 1)) / k + 1) (r : Int) := bnat hr
  try dsimp only [List.set]
  walk_at "zz"
  refine ⟨_, _, _, _, _, rfl, so2, T, w, (1 : Int), r, k, B, G, _, rfl, rfl, rfl, rfl, rfl, hs, by omega, w0, lo, hi, bT, bw, b1, hr, by omega, by omega, Nat.succ_pos _, rz.2.2.2.1, rz.2.2.1, rz.2.2.2.2, ?_⟩
  try dsimp only [List.set]
  walk_at "zz"
  have hF6 := hF5.mono s6
  have hp6 := (hp4.mono s5).mono s6
  obtain ⟨t, b, hr6, b0, gg, e⟩ := id hF6
  have tb := fr_bits b0 gg w0 e bT bw
  have t0 : 0 ≤ t := by
    have := (fr_neg b0 w0 e).1
    omega
  refine u_er hr6 b0 gg t0 k1.1 k1.2 tb.1 tb.2 (by omega) (fun x1 H7 s7 hx1 => ?_)
  try dsimp only [List.set]
  walk_at "zz"
  refine u_lx k1.1 k1.2 T0 w0 b0 e gg bT bw (by omega) (by omega) hx1 ?_
  try dsimp only [List.set]
  walk_at "zz"
  refine u_er (k := 1) (hr6.mono s7) b0 gg t0 (by decide) (by decide) tb.1 tb.2 (by omega) (fun x2 H8 s8 hx2 => ?_)
  try dsimp only [List.set]
  walk_at "zz"
  refine u_lx (k := 1) (by decide) (by decide) T0 w0 b0 e gg bT bw (by omega) (by omega) hx2 ?_
  have hF8 := (hF6.mono s7).mono s8
  have hp8 := (hp6.mono s7).mono s8
  try dsimp only [List.set]
  walk_at "zz"
  rename_i fc wl H9 gx s9 e9
  have bf : 1 ≤ 1 + fc % 1000000000 ∧ 1 + fc % 1000000000 ≤ 1000000000 := by omega
  generalize 1 + fc % 1000000000 = far at *
  have hF9 := hF8.mono s9
  have hp9 := hp8.mono s9
  have hr9 := ((hr6.mono s7).mono s8).mono s9
  refine z_foV e9 (fun i σ' H' => ∃ x10 : Option V, σ' = [some (.ref c), some (.int sz), some (.int (k : Int)), some (.ref pa), some (.int g), some (.int T), some (.int w), some (.ref pr), some (.ref so), some (.int far), x10, none, none, none, none] ∧ Same H9 H') ⟨_, rfl, fun _ _ h => h⟩ (fun i σ' H' z => by obtain ⟨_, _, s⟩ := z; exact s _ _ e9) ?_ ?_
  · rintro i x σ' H' ex ⟨x10, rfl, sh⟩
    obtain ⟨y, rfl, hy⟩ := in4 ex
    have ny : ¬ (1 ≤ y ∧ y ≤ 5000) := by omega
    try dsimp only [List.set]
    walk_at "zz"
    refine ⟨_, _, _, _, rfl, pr, T, w, y, 0, y, rfl, rfl, rfl, rfl, hF9.mono sh, w0, T0, .inl ⟨ny, rfl⟩, fun HA sA => ?_⟩
    try dsimp only [List.set]
    walk_at "zz"
    refine ⟨_, _, rfl, pr, t, b, y, rfl, rfl, (hr9.mono sh).mono sA, b0, gg, t0, ny, fun HB sB => ?_⟩
    try dsimp only [List.set]
    walk_at "zz"
    exact ⟨_, rfl, (sh.trans sA).trans sB⟩
  rintro σ' HD ⟨x10, rfl, sD⟩
  have hF10 := hF9.mono sD
  have hp10 := hp9.mono sD
  try dsimp only [List.set]
  walk_at "zz"
  rename_i wl2 HE gy sE eE
  have hF11 := hF10.mono sE
  have hp11 := hp10.mono sE
  refine z_foV eE (fun i σ' H' => ∃ x10 : Option V, σ' = [some (.ref c), some (.int sz), some (.int (k : Int)), some (.ref pa), some (.int g), some (.int T), some (.int w), some (.ref pr), some (.ref so), some (.int far), x10, none, none, none, none] ∧ Same HE H') ⟨_, rfl, fun _ _ h => h⟩ (fun i σ' H' z => by obtain ⟨_, _, s⟩ := z; exact s _ _ eE) ?_ ?_
  · rintro i x σ' H' ex ⟨x10, rfl, sh⟩
    obtain ⟨y, rfl, hy⟩ := in4 ex
    have ny : ¬ (1 ≤ y ∧ y ≤ 1000000000000000000000000000000000000000000000000000000000000) := by omega
    try dsimp only [List.set]
    walk_at "zz"
    refine ⟨_, _, _, _, rfl, pr, T, w, (k : Int), y, y, rfl, rfl, rfl, rfl, hF11.mono sh, w0, T0, .inr ⟨by omega, by omega, ny, rfl⟩, fun HA sA => ?_⟩
    try dsimp only [List.set]
    walk_at "zz"
    exact ⟨_, rfl, sh.trans sA⟩
  rintro σ' HF ⟨x10, rfl, sF⟩
  have hF12 := hF11.mono sF
  have hp12 := hp11.mono sF
  try dsimp only [List.set]
  walk_at "zz"
  refine ⟨_, _, _, _, rfl, -1 - T, w, (k : Int), g, B, rfl, rfl, rfl, rfl, by omega, w0, bw, by omega, fun HG sG => ?_⟩
  try dsimp only [List.set]
  walk_at "zz"
  refine ⟨_, _, _, _, rfl, -far, w, 0, 0, B, rfl, rfl, rfl, rfl, by omega, w0, bw, by omega, fun HI sI => ?_⟩
  try dsimp only [List.set]
  walk_at "zz"
  refine ⟨_, _, _, _, rfl, -far, w, 5001, 1, B, rfl, rfl, rfl, rfl, by omega, w0, bw, by omega, fun HJ sJ => ?_⟩
  have hF13 := ((hF12.mono sG).mono sI).mono sJ
  have hp13 := ((hp12.mono sG).mono sI).mono sJ
  try dsimp only [List.set]
  walk_at "zz"
  refine ⟨_, _, _, rfl, c, 9, sz, rfl, rfl, rfl, hp13, by decide, fun rs l1 HK sK hR hsR => ?_⟩
  have hp14 := hp13.mono sK
  try dsimp only [List.set]
  walk_at "zz"
  refine ⟨_, _, _, rfl, c, 25, sz, rfl, rfl, rfl, hp14, by decide, fun ss l2 HL sL hS hsS => ?_⟩
  have hp15 := hp14.mono sL
  have hR15 := hR.mono sL
  have hF15 := (hF13.mono sK).mono sL
  try dsimp only [List.set]
  walk_at "zz"
  rename_i kc
  have bk : 0 ≤ kc % 6 ∧ kc % 6 ≤ 5 := by omega
  generalize kc % 6 = kd at *
  refine z_cut (fun σ' HX => ∃ (f1 : Addr) (rw1 : List PQE) (x10 : Option V), σ' = [some (.ref c), some (.int sz), some (.int (k : Int)), some (.ref pa), some (.int g), some (.int T), some (.int w), some (.ref pr), some (.ref so), some (.int far), x10, some (.ref f1), some (.ref l2), some (.int kd), none] ∧ Same HL HX ∧ RowsAt HX f1 rw1 ∧ Small rw1 ∧ (kd ≤ 2 → 1 ≤ kd → rw1.length ≤ 4)) ?_ ?_
  case' refine_2 =>
    intro R hRc
    try dsimp only [List.set]
    walk_at "zz"
    refine z_d2 (fun d1 => ?_) (fun d1 => ?_)
    · try dsimp only [List.set]
      walk_at "zz"
      refine z_slHi hR15 (by decide) (fun f1 HM gM sM hf => ?_)
      have hs4 := hsR.take (4 : Int).toNat
      have l4 : (rs.take (4 : Int).toNat).length ≤ 4 := by
        rw [List.length_take]
        exact Nat.min_le_left _ _
      try dsimp only [List.set]
      walk_at "zz"
      exact hRc _ _ ⟨f1, _, _, rfl, sM, hf, hs4, fun _ _ => l4⟩
    try dsimp only [List.set]
    walk_at "zz"
    refine z_d2 (fun d2 => ?_) (fun d2 => ?_)
    · try dsimp only [List.set]
      walk_at "zz"
      refine z_slHi hR15 (by decide) (fun f1 HM gM sM hf => ?_)
      have hs4 := hsR.take (4 : Int).toNat
      have l4 : (rs.take (4 : Int).toNat).length ≤ 4 := by
        rw [List.length_take]
        exact Nat.min_le_left _ _
      try dsimp only [List.set]
      walk_at "zz"
      exact hRc _ _ ⟨f1, _, _, rfl, sM, hf, hs4, fun _ _ => l4⟩
    try dsimp only [List.set]
    walk_at "zz"
    exact hRc _ _ ⟨l1, rs, _, rfl, fun _ _ h => h, hR15, hsR, fun z1 z2 => absurd z2 (by omega)⟩
  rintro σ' HX ⟨f1, rw1, x11, rfl, sX, hf, hs1, hl1⟩
  have hp16 := hp15.mono sX
  have hF16 := hF15.mono sX
  have hS16 := hS.mono sX
  clear hp15 hF15 hR15 hsR hR hS
  try dsimp only [List.set]
  walk_at "zz"
  refine z_cut (fun σ' HY => ∃ (s1 : Addr) (s2 : List PQE) (x10 : Option V), σ' = [some (.ref c), some (.int sz), some (.int (k : Int)), some (.ref pa), some (.int g), some (.int T), some (.int w), some (.ref pr), some (.ref so), some (.int far), x10, some (.ref f1), some (.ref s1), some (.int kd), none] ∧ Same HX HY ∧ RowsAt HY s1 s2 ∧ Fine s2 ∧ s2.length ≤ 8 ∧ esum s2 ≤ 3200) ?_ ?_
  case' refine_2 =>
    intro R hRc
    try dsimp only [List.set]
    walk_at "zz"
    refine z_d2 (fun d0 => ?_) (fun d0 => ?_)
    · try dsimp only [List.set]
      walk_at "zz"
      rename_i yc
      have by1 : 1 ≤ 1 + yc % 9 ∧ 1 + yc % 9 ≤ 9 := by omega
      refine ⟨_, _, _, rfl, f1, kd, 1 + yc % 9, rw1, rfl, rfl, rfl, hf, hs1, by omega, by omega, by1.1, by1.2, fun z => hl1 (by omega) (by omega), fun s2 l3 HN sN hSX fS lS eS => ?_⟩
      try dsimp only [List.set]
      walk_at "zz"
      exact hRc _ _ ⟨l3, s2, _, rfl, sN, hSX, fS, lS, eS⟩
    try dsimp only [List.set]
    walk_at "zz"
    exact hRc _ _ ⟨l2, ss, _, rfl, fun _ _ h => h, hS16, hsS.fine, by have := hsS.1; omega, by have := hsS.2.2; omega⟩
  rintro σ' HY ⟨s1, s2, x12, rfl, sY, hSX, fS, lS, eS⟩
  have hRX := hf.mono sY
  have hsX := hs1
  have hpX := hp16.mono sY
  have hFX := hF16.mono sY
  clear hf hs1 hl1 hp16 hF16 hS16
  try dsimp only [List.set]
  walk_at "zz"
  have lR := hsX.1
  have eR := hsX.2.2
  refine u_pr hRX hSX hsX.fine fS (by omega) lS (by omega) (fun A1 a1 => ?_)
  try dsimp only [List.set]
  walk_at "zz"
  refine z_slHi (hSX.mono a1) (by decide) (fun w7 A2 ga2 a2 hW7 => ?_)
  have fW : Fine (s2.take (7 : Int).toNat) := fS.take _
  have lW : (s2.take (7 : Int).toNat).length ≤ 8 := by
    rw [List.length_take]
    omega
  generalize s2.take (7 : Int).toNat = WW at *
  have T2 := a1.trans a2
  try dsimp only [List.set]
  walk_at "zz"
  refine ⟨_, _, rfl, c, 44, rfl, rfl, hpX.mono T2, by decide, fun od r1 A3 a3 hod fr1 nr1 => ?_⟩
  have T3 := T2.trans a3
  try dsimp only [List.set]
  walk_at "zz"
  refine ⟨_, _, _, rfl, w7, od, _, WW, r1, rfl, rfl, rfl, hW7.mono a3, by omega, hod, fun n1 wr A4 a4 hwr => ?_⟩
  have T4 := T3.trans a4
  have lWr := len_put (r := r1) (n := n1) lW
  have fWr := fit_put (n := n1) fW fr1
  try dsimp only [List.set]
  walk_at "zz"
  refine u_pe (hRX.mono T4) hwr (by omega) lWr hsX.fine.fit fWr (out_put_r nr1) (fun A5 a5 => ?_)
  have T5 := T4.trans a5
  try dsimp only [List.set]
  walk_at "zz"
  refine u_pe (hwr.mono a5) (hSX.mono T5) lWr (by omega) fWr fS.fit (out_put_l nr1) (fun A6 a6 => ?_)
  have T6 := T5.trans a6
  try dsimp only [List.set]
  walk_at "zz"
  refine ⟨_, _, rfl, c, 47, rfl, rfl, hpX.mono T6, by decide, fun od2 r2 A7 a7 hod2 fr2 nr2 => ?_⟩
  have T7 := T6.trans a7
  try dsimp only [List.set]
  walk_at "zz"
  refine ⟨_, _, _, rfl, f1, od2, _, rw1, r2, rfl, rfl, rfl, hRX.mono T7, by omega, hod2, fun n2 bo A8 a8 hbo => ?_⟩
  have T8 := T7.trans a8
  have lBo := len_put (r := r2) (n := n2) (show rw1.length ≤ 8 by omega)
  have fBo := fit_put (n := n2) hsX.fine fr2
  have hwr8 := ((hwr.mono a5).mono a6).mono (a7.trans a8)
  try dsimp only [List.set]
  walk_at "zz"
  refine u_pe hbo hwr8 lBo lWr fBo fWr (out_put_l nr2) (fun A9 a9 => ?_)
  try dsimp only [List.set]
  walk_at "zz"
  refine u_pe (hwr8.mono a9) (hbo.mono a9) lWr lBo fWr fBo (out_put_l nr1) (fun AA aA => ?_)
  have TA := (T8.trans a9).trans aA
  try dsimp only [List.set]
  walk_at "zz"
  refine ⟨_, _, rfl, c, sz, rfl, rfl, hpX.mono TA, fun AB aB => ?_⟩
  have TB := TA.trans aB
  try dsimp only [List.set]
  walk_at "zz"
  refine ⟨_, _, rfl, f1, s1, rw1, s2, rfl, rfl, hRX.mono TB, hSX.mono TB, hsX.fine, fS, by omega, lS, by omega, fun AC aC => ?_⟩
  have TC := TB.trans aC
  try dsimp only [List.set]
  walk_at "zz"
  refine u_pr (hRX.mono TC) (hSX.mono TC) hsX.fine fS (by omega) lS (by omega) (fun AD aD => ?_)
  try dsimp only [List.set]
  walk_at "zz"
  refine u_lis ((hFX.mono TC).mono aD) w0 bw (by omega) ?_
  exact q _
end
end T
set_option maxHeartbeats 0
open PySem PySem.W PySem.Calls PyProof.Rows
theorem PySem.Challenge.cw_belownought_k02_roots_of_fractions_holds : PySem.Challenge.rw_belownought_k02_roots_of_fractions.Holds := by
  w_on; o_law
  refine HandSHeadRun.head_imp (r := T.R) (q := view T.R.prog [0, 51]) (H := T.hk) (ob := T.ob) (M := 12000) (loose := T.loose) (d := HandSHeadRun.topDef T.R.prog 51) (kwd := []) T.ob_eq T.run
    (by kernel_rfl) (by kernel_rfl) (by kernel_rfl) (by rfl) (by first | assumption | decide +kernel) (by decide +kernel) ⟨rfl, rfl, rfl, rfl, rfl, by decide +kernel⟩ ?hw ?hc
  case hw => w_witness2
  case hc =>
    refine L2.walk_ofE (l := PySem.Challenge.rw_belownought_k02_roots_of_fractions) (n := 63) (k := 8) (x := "script") (CX := L2.CX0) rfl (by decide) (by kernel_rfl) ⟨rfl, by decide, by decide⟩ ?F (fun _ _ _ _ z => z)
    case F =>
      intro w mg fa h Y G hmg0
      obtain ⟨K, KX, c⟩ := Y
      have hmg : mg ("law" : PySem.Str) = some (.ref fa) := by
        have e : (HandSHeadRun.topDef T.R.prog 51).name = ("law" : PySem.Str) := by kernel_rfl
        rw [← e]
        exact hmg0
      have L : T.Lw K mg := ⟨⟨h, KX, G⟩, c⟩
      obtain ⟨fd, F⟩ := L.d_law
      have e := hmg.symm.trans L.g_law
      cases e
      refine ⟨K, fd, Z.sp1 (Z.fs_law K), KX, fun s v => F.bindsA (ps := ["script"]) (fun _ _ _ _ _ _ us hl => match us, hl with | [_], _ => rfl) s [v] rfl, fun H a ns hl _ hS => ⟨_, rfl, a, ns, rfl, hS, hl, fun _ => rfl⟩, fun base _ _ => ?_⟩
      exact Z.law_quiet (T.ok_law L F) (by decide)
