import PyProof.Rows.All
import Wide.All
import OpenK.AllK
import Wide.FinOn
import HandS.ForMost
import HandS.Exc
import HandS.ExcOwn
import HandS.WordsExc
import HandS.CallSlots
import HandS.TryOnly
import HandS.TryMany
import HandS.Gcd
import HandS.ExcInit
import HandS.IsInst
import HandS.Defaults
import HandS.MakeKw
import HandS.Wide
import HandS.HotCalls
import HandS.ExcIs
import HandS.ExcField
import HandS.Flow
import HandS.Style
import HandS.Head0
import HandS.Head1
import HandS.Head2
import HandS.Head3
import HandS.HeadEnd
import HandS.HeadHook1
import HandS.HeadHook2
import KE.KExcIs
import HandS.Walk
import KE.KMathGC
import KE.GoesEnum
import HandS.HeadNt
import HandS.WideBits
import Flt.RightSqrt
import HandS.OwnEq
import HandS.Property
import HandS.ExcCtx
import HandS.Codes
import HandS.StrMore
import HandS.FStr
import PyProof.Rows.StrOr
import PyProof.StrOps2
import PySem.Challenge.RW_belownought_k00_ratio_rules
set_option Elab.async false
set_option linter.all false
set_option maxRecDepth 100000
set_option maxHeartbeats 4000000
namespace Z
open PySem PySem.Spec PyProof.Rows L2
section
variable (P : Program) (w : World) (K : PySem.W.Frag) (mg : Str → Option Value) (base : Heap)
/-- a def of the module under its name, the defaults dvs filling up -/
structure Cal (k : Nat) (x : Str) (sp : Sp) (dvs : List V) : Prop where
  ex : ∃ (f : Addr) (fd : FuncData) (ps : List Str) (ds : List Value), FnOk P w K mg base (L2N.CX P w) k f fd ps sp ∧ mg x = some (.ref f) ∧ PySem.W.keepIn K (.ref f) = true ∧ Binds K fd ps ds ∧ Vals dvs ds
/-- .. within an except suite -/
structure CalH (k : Nat) (x : Str) (sp : Sp) : Prop where
  ex : ∃ (f : Addr) (fd : FuncData) (ps : List Str), L2H.FnH P w K mg base (L2N.CX P w) k f fd ps sp ∧ mg x = some (.ref f) ∧ PySem.W.keepIn K (.ref f) = true ∧ Binds K fd ps []
/-- a method -/
structure Met (k : Nat) (C : Addr) (m : Str) (sp : Sp) (dvs : List V) : Prop where
  ex : ∃ (f : Addr) (fd : FuncData) (ps : List Str) (ds : List Value), Cls K C ∧ Meth K C m f ∧ FnOk P w K mg base (L2N.CX P w) k f fd ps sp ∧ Binds K fd ps ds ∧ Vals dvs ds
/-- a class made by its name -/
structure Mak (k : Nat) (x : Str) (C : Addr) (sp : Sp) (dvs : List V) : Prop where
  ex : ∃ (f : Addr) (fd : FuncData) (ps : List Str) (ds : List Value), Mk K C f ∧ FnOk P w K mg base (L2N.CX P w) k f fd ps sp ∧ mg x = some (.ref C) ∧ Binds K fd ps ds ∧ Vals dvs ds
structure MakK (k : Nat) (x : Str) (C : Addr) (sp : Sp) (n : Nat) (ks : List Str) (gV : List V → List V → List V) : Prop where
  ex : ∃ (f : Addr) (fd : FuncData) (ps : List Str) (g : List Value → List Value → List Value), Mk K C f ∧ FnOk P w K mg base (L2N.CX P w) k f fd ps sp ∧ mg x = some (.ref C) ∧ KBn K fd ps (n + 1) ks g gV
/-- an exception class made by its name, its own __init__ keeping sp -/
structure MakX (k : Nat) (x : Str) (C : Addr) (sp : Sp) : Prop where
  ex : ∃ (f : Addr) (fd : FuncData) (ps : List Str), OexC K C ∧ PySem.W.findIn K (.ref C) "__init__" = some (some (.ref f)) ∧ PySem.W.typeIn K (.ref f) = some (.type "function") ∧ FnOk P w K mg base (L2N.CX P w) k f fd ps sp ∧ mg x = some (.ref C) ∧ Binds K fd ps []
end
/-- what a call lets out, wished for by W -/
def tCallW (sp : Sp) (dvs : List V) (W : WX) (t : TA) : TE := fun σ H Q => t σ H fun vs H1 => sp (vs ++ dvs) H1 Q (fun cls d H' => W cls d σ H')
def tMethW (C : Addr) (m : Str) (sp : Sp) (dvs : List V) (W : WX) (ta : TE) (t : TA) : TE := fun σ H Q => ta σ H fun x H1 => ∃ a dx fs, x = .ref a ∧ H1 a = some (.ins C dx fs) ∧ fs.lookup m = none ∧
  t σ H1 fun vs H2 => sp (x :: (vs ++ dvs)) H2 Q (fun cls d H' => W cls d σ H')
def tMakeW (C : Addr) (sp : Sp) (dvs : List V) (W : WX) (t : TA) : TE := fun σ H Q => t σ H fun vs H1 => ∀ x dx, H1 x = none → H1 dx = none → dx ≠ x →
  sp (.ref x :: (vs ++ dvs)) (upd (upd H1 dx (.own x)) x (.ins C dx [])) (fun v H2 => v = .non ∧ Q (.ref x) H2) (fun cls d H' => W cls d σ H')
section
variable {X : Cx} {k j : Nat} {f C : Addr} {fd : FuncData} {ps : List Str} {sp : Sp} {dvs : List V} {ds : List Value} {W : WX} {x m : Str} {p pos apos : Pos} {e o : Expr} {es : List Expr} {ta : TE} {t : TA}
theorem passW (tk : L2N.Takes X W) (σ : L2.St) : PassesAt (L2N.CX X.prog X.w) X σ (fun cls d H => W cls d σ H) := L2N.passAt tk σ
theorem pe_c (c : Cal X.prog X.w X.K X.mg X.base k x sp dvs) (hr : Room j X.A) (hk : k ≤ j) (tk : L2N.Takes X W) (ha : PA X (e :: es) t) (hg : Gl X x := by rfl)
    (hdb : (x == ("__debug__" : Str)) = false := by decide) (he : starEach (e :: es) X.env = (false, eval e X.env) :: starEach es X.env := by rfl) (hpl : (backTo pos (starEach es X.env)).any (·.1) = false := by rfl) :
    PE X (.Call (.Name x p) (e :: es) [] pos) (tCallW sp dvs W t) := by
  obtain ⟨f, fd, ps, ds, F, hm, kp, b, d⟩ := c.ex
  exact pe_callSD (E := fun σ cls d H => W cls d σ H) F (hr.mono hk) hg hm kp b d (passW tk) ha hdb he hpl
/-- making an instance, the wish at the slots -/
theorem run_mkS {pi : List (Addr × Obj)} {sl : L2.St} {H0 : Hp} {s0 : Shared} {Q0 : VK} {us : List Value} {xs : List V} {E0 : XK} (M : Mk X.K C f) (F : FnOk X.prog X.w X.K X.mg X.base (L2N.CX X.prog X.w) k f fd ps sp) (hr : Room (k + 1) X.A) (hb : Binds X.K fd ps ds) (hd : Vals dvs ds)
    (hx : PassesAt (L2N.CX X.prog X.w) X sl E0) (J : Inv X pi sl H0 s0) (r : Vals xs us)
    (h : ∀ y dy, H0 y = none → H0 dy = none → dy ≠ y → sp (.ref y :: (xs ++ dvs)) (upd (upd H0 dy (.own y)) y (.ins C dy [])) (fun v H2 => v = .non ∧ Q0 (.ref y) H2) E0) :
    wpAny (model X.prog X.w) X.A (call (.ref C) us) (EP X pi sl Q0) X.xe s0 := by
  have g1 := J.hok.fresh (Nat.le_succ s0.heap.objs.size)
  have g2 := J.hok.fresh (Nat.le_refl s0.heap.objs.size)
  have asked := h _ _ g1 g2 (Nat.ne_of_lt (Nat.lt_succ_self _))
  have J2 := Inv.made (C := C) J
  have rs : Vals (V.ref (s0.heap.objs.size + 1) :: (xs ++ dvs)) (Value.ref (s0.heap.objs.size + 1) :: (us ++ ds)) := .cons rfl (r.append hd)
  have sz : (Value.ref (s0.heap.objs.size + 1) :: us ++ ds).length = ps.length := rs.length.symm.trans (F.len _ _ _ _ asked)
  have bd := hb _ (Value.ref (s0.heap.objs.size + 1) :: us) J2.kIn sz
  have run := F.run (X.A.under (.builtin "type.__call__" ⟨.ref C :: us, []⟩)) X.stack _ _ ⟨Value.ref (s0.heap.objs.size + 1) :: us, []⟩ _ _ _ _ (hr.make C us []) (J2.env0.make C us []) bd rs asked
  refine wpAny_call (make_map (f := f) J.kIn M.makes M.init (beq_iff_eq.mp M.fn) (codeAny_mono run fun fin s1 hq => ?_))
  match fin, hq with
  | .error er, hq => exact hx pi _ _ er s1 J2 hq
  | .ok (.ret u), hq =>
    obtain ⟨v, H3, J3, rv, ev, q3⟩ := J2.after hq
    subst ev
    exact ⟨rv, ⟨V.ref (s0.heap.objs.size + 1), H3, J3, rfl, q3⟩⟩
theorem pe_mk (c : Mak X.prog X.w X.K X.mg X.base k x C sp dvs) (hr : Room j X.A) (hk : k + 1 ≤ j) (tk : L2N.Takes X W) (ha : PA X (e :: es) t) (hg : Gl X x := by rfl)
    (hdb : (x == ("__debug__" : Str)) = false := by decide) (he : starEach (e :: es) X.env = (false, eval e X.env) :: starEach es X.env := by rfl) (hpl : (backTo pos (starEach es X.env)).any (·.1) = false := by rfl) :
    PE X (.Call (.Name x p) (e :: es) [] pos) (tMakeW C sp dvs W t) := by
  obtain ⟨f, fd, ps, ds, M, F, hm, b, d⟩ := c.ex
  refine ⟨fun pi s0 sl H0 Q0 J h0 => ?_⟩
  refine wpAny_Call_Name_kw (ld_glob J hg hm ?_ hdb)
  refine PySem.W.callWith_K (h₀ := X.base) J.ok.mod.kin M.kp (thn (ha.run pos pi s0 sl H0 _ J h0) fun us s1 ⟨xs, H1, J1, r, q⟩ => ⟨J1.kIn, ?_⟩) he hpl
  exact run_mkS M F (hr.mono hk) b d (passW tk sl) J1 r q
theorem pe_mkk0 {ks : List Str} {gV : List V → List V → List V} {E : XK} {kw : Keyword} {kws : List Keyword} {tw : TA} (c : MakK X.prog X.w X.K X.mg X.base k x C sp 0 ks gV) (hr : Room j X.A) (hk : k + 1 ≤ j) (hx : Passes (L2N.CX X.prog X.w) X E) (hkw : PK X (kw :: kws) tw) (hg : Gl X x := by rfl)
    (hall : (backToKw pos (keywordEach (kw :: kws) X.env)).all (·.1.isSome) = true := by rfl) (hks : (backToKw pos (keywordEach (kw :: kws) X.env)).filterMap (·.1) = ks := by rfl)
    (hdb : (x == ("__debug__" : Str)) = false := by decide)
    (hpl : ((backTo pos (starEach [] X.env)).any (·.1) || (backToKw pos (keywordEach (kw :: kws) X.env)).any (·.1.isNone)) = false := by rfl) :
    PE X (.Call (.Name x p) [] (kw :: kws) pos) (tMakeN C 0 ks.length sp gV E tNil tw) := by
  obtain ⟨f, fd, ps, g, M, F, hm, b⟩ := c.ex
  refine ⟨fun pi s0 sl H0 Q0 J h0 => ?_⟩
  refine wpAny_Call_Name_kw (ld_glob J hg hm ?_ hdb)
  refine PySem.W.callWith_KW0 (h₀ := X.base) J.ok.mod.kin M.kp hall ?_ hpl
  refine thn (hkw.run pos pi s0 sl H0 _ J h0) fun ws s2 ⟨zs, H2, J2, rz, l1, l2, q2⟩ => ⟨J2.kIn, ?_⟩
  rw [hks]
  exact run_makeN (vs := []) M F (hr.mono hk) b hx J2 .nil rz rfl l2 q2
/-- o.m(..) of an own class -/
theorem pe_mt {pl : Sem Bool} (c : Met X.prog X.w X.K X.mg X.base k C m sp dvs) (hr : Room j X.A) (hk : k ≤ j) (tk : L2N.Takes X W) (ho : PE X o ta) (ha : PA X (e :: es) t)
    (hst : starEach (e :: es) X.env = (false, eval e X.env) :: starEach es X.env := by rfl) (hpl : (backTo pos (starEach es X.env)).any (·.1) = false := by rfl)
    (ht : eval (.Call (.Attribute o m apos) (e :: es) [] pos) X.env = (do
      let ov ← eval o X.env; standAt apos.atName
      let (f, first) ← holding [ov] (getMethod ov m pl); callWith pos f first (backTo pos (starEach (e :: es) X.env)) (backToKw pos (keywordEach [] X.env))) := by rfl) :
    PE X (.Call (.Attribute o m apos) (e :: es) [] pos) (tMethW C m sp dvs W ta t) := by
  obtain ⟨f, fd, ps, ds, hc, hm, F, b, d⟩ := c.ex
  refine ⟨fun pi s0 sl H0 Q0 J h0 => ?_⟩
  refine PySem.W.methodCall_KW (pl := pl) (thn (ho.run pi s0 sl H0 _ J h0) fun u s1 ⟨y, H1, J1, ry, a, dy, fs, ey, ea, l, q⟩ => ?_) ht
  subst ey
  obtain rfl : u = Value.ref a := ry
  refine getmeth_ok J1 ea hc hm l ?_
  refine PySem.W.callWith_K (first := [.ref a]) (h₀ := X.base) J.ok.mod.kin hm.kp (thn (ha.run pos pi s1 sl H1 _ J1 q) fun us s2 ⟨xs, H2, J2, r, q2⟩ => ⟨J2.kIn, ?_⟩) hst hpl
  exact run_fnSD (us := .ref a :: us) (vs := .ref a :: xs) (E := fun σ cls d H => W cls d σ H) F (hr.mono hk) b d (passW tk sl) J2 (.cons rfl r) q2
theorem pe_mt0 {pl : Sem Bool} (c : Met X.prog X.w X.K X.mg X.base k C m sp dvs) (hr : Room j X.A) (hk : k ≤ j) (tk : L2N.Takes X W) (ho : PE X o ta)
    (ht : eval (.Call (.Attribute o m apos) [] [] pos) X.env = (do
      let ov ← eval o X.env; standAt apos.atName
      let (f, first) ← holding [ov] (getMethod ov m pl); callWith pos f first (backTo pos (starEach [] X.env)) (backToKw pos (keywordEach [] X.env))) := by rfl) :
    PE X (.Call (.Attribute o m apos) [] [] pos) (tMethW C m sp dvs W ta tNil) := by
  obtain ⟨f, fd, ps, ds, hc, hm, F, b, d⟩ := c.ex
  refine ⟨fun pi s0 sl H0 Q0 J h0 => ?_⟩
  refine PySem.W.methodCall_KW (pl := pl) (thn (ho.run pi s0 sl H0 _ J h0) fun u s1 ⟨y, H1, J1, ry, a, dy, fs, ey, ea, l, q⟩ => ?_) ht
  subst ey
  obtain rfl : u = Value.ref a := ry
  refine getmeth_ok J1 ea hc hm l ?_
  exact PySem.W.callWith_K0 (first := [.ref a]) J1.kIn hm.kp (run_fnSD (us := [.ref a]) (vs := [.ref a]) (E := fun σ cls d H => W cls d σ H) F (hr.mono hk) b d (passW tk sl) J1 (.cons rfl .nil) q)
end
end Z
set_option maxHeartbeats 4000000
namespace Z
open PySem PySem.Spec PyProof.Rows L2
section
variable {X : Cx} {k j : Nat} {C : Addr} {sp : Sp} {W : WX} {x : Str} {p pos : Pos} {e : Expr} {es : List Expr} {t : TA}
/-- X(), X an own exception class without an __init__ of the text -/
theorem pmk_x0 {bmB : List Value} {B newId initId : String} (F : ExcBaseFacts B newId initId bmB) (q : PySem.W.excIn X.K C bmB newId = true) (gC : X.mg x = some (.ref C)) (kC : PySem.W.keepIn X.K (.ref C) = true) (r : Raises X (.ref C)) (hg : Gl X x := by rfl)
    (hdb : (x == ("__debug__" : Str)) = false := by decide) : L2N.PMk X (.Call (.Name x p) [] [] pos) (fun _ H Q => Q (.ref C) none H) := by
  intro pi s0 sl H0 Q0 J h0
  refine wpAny_Call_Name_kw (ld_glob J hg gC ?_ hdb)
  refine PySem.W.callWith_K0 J.kIn kC ?_
  show wpAny _ _ (call (.ref C) []) _ _ _
  obtain ⟨bm, N, nm, qn, bs, hdct, sn, sub, ab, col, dd, k0, k1, k2, k3, k5, mN, hC, hN, hni, T⟩ := exc_obj J.kIn q
  refine wpAny_call_exc_subT F T hC hN hni (fun h1 e1 hm => ?_) (Nat.zero_le _)
  exact L2N.mk_of J hm r h0 (J.hok.gone hm.new)
/-- C(..), C's own __init__ keeping sp: what is left is an exception without a context -/
theorem run_exc {fI : Addr} {fd : FuncData} {ps : List Str} {pi : List (Addr × Obj)} {sl : L2.St} {H1 : Hp} {s1 : Shared} {Q0 : XK} {us : List Value} {xs : List V} (T : OexC X.K C) (iC : PySem.W.findIn X.K (.ref C) "__init__" = some (some (.ref fI)))
    (tI : PySem.W.typeIn X.K (.ref fI) = some (.type "function")) (F1 : FnOk X.prog X.w X.K X.mg X.base (L2N.CX X.prog X.w) k fI fd ps sp) (hr : Room (k + 1) X.A) (hb : Binds X.K fd ps []) (hx : Passes (L2N.CX X.prog X.w) X (fun _ _ _ => False)) (J1 : Inv X pi sl H1 s1) (r1 : Vals xs us) (hz : xs.length ≤ 1000)
    (q1 : ∀ a, H1 a = none → sp (.ref a :: (xs ++ [])) (upd H1 a (exo a C none)) (fun v H2 => v = .non ∧ ∃ (d : Addr) (fs : List (Str × V)), H2 a = some (exo a C (some d)) ∧ H2 d = some (exd d fs) ∧ H1 d = none ∧ Q0 (.ref C) (some d) (upd (del H2 a) d (.xd fs))) (fun _ _ _ => False)) :
    wpAny (model X.prog X.w) X.A (call (.ref C) us) (L2N.MkP X pi sl Q0) X.xe s1 := by
  obtain ⟨nm, q, N, bs, bm, sn, sub, ab, col, dd, k0, k1, k2, k3, k5, hC, hbm⟩ := T.cls
  obtain ⟨hp, g, dr, tk, os⟩ := s1
  have sz0 := Nat.le_succ hp.objs.size
  have nw : H1 (hp.objs.size + 1) = none := J1.hok.fresh sz0
  have asked := q1 _ nw
  have old : ∀ b o, hp.get? b = some o → ((hp.push (PySem.W.kdv_tup us)).push (PySem.HandSPX.excO C hp.objs.size)).get? b = some o := fun b o e1 => Heap.get?_push_of_some _ (Heap.get?_push_of_some _ e1)
  have at_new : ((hp.push (PySem.W.kdv_tup us)).push (PySem.HandSPX.excO C hp.objs.size)).get? (hp.objs.size + 1) = some (PySem.HandSPX.excO C hp.objs.size) := by heap_get
  have J2 := J1.laid (t' := tk) (a := hp.objs.size + 1) (o := exo (hp.objs.size + 1) C none) old sz0 (exo_ok at_new)
  have r2 : Vals (V.ref (hp.objs.size + 1) :: (xs ++ [])) (Value.ref (hp.objs.size + 1) :: (us ++ [])) := .cons rfl (r1.append .nil)
  have szl : (Value.ref (hp.objs.size + 1) :: us ++ []).length = ps.length := r2.length.symm.trans (F1.len _ _ _ _ asked)
  have szu : us.length ≤ sizeLine := by rw [← Paired.length r1, sizeLine_eq]; omega
  have bd := hb _ (Value.ref (hp.objs.size + 1) :: us) J2.kIn szl
  have run := F1.run (X.A.under (.builtin "type.__call__" ⟨.ref C :: us, []⟩)) X.stack _ _ ⟨Value.ref (hp.objs.size + 1) :: us, []⟩ _ _ _ (fun _ _ _ => False) (hr.make C us []) (J2.env0.make C us []) bd r2 asked
  have looks := PySem.W.looks_findIn (M := model X.prog X.w) J1.kIn iC
  refine wpAny_call (PySem.HandSPX.call_own PySem.F.excBase_ValueError (fun Y => PySem.HandSPX.refsVE_contains Y bm hbm) (J1.kIn _ _ hC) looks (fun self => PySem.W.bind_fn J1.kIn self tI) szu (codeAny_mono run fun fin s3 hq => ?_))
  match fin, hq with
  | .error er, hq => exact hx pi sl _ _ er s3 J2 hq
  | .ok (.ret u), hq =>
    obtain ⟨v, H2, os2, bare2, un2, hok2, rv, ev, d, fs, ea, ed, hd1, q2⟩ := hq
    subst ev
    obtain ⟨h2, g2, d2, t2, os'⟩ := s3
    obtain ⟨t0, G, J3, kG, ge, hoe, na⟩ := mk_end0 (d2 := d2) (t2 := t2) J1 sz0 old un2 hok2 os2 bare2 ea ed hd1
    exact ⟨rv, _, _, _, ⟨G, g2, d2, t2, os'⟩, _, .ref C, some d, rfl, J3, kG, ge, hoe, ⟨rfl, rfl, fun vs ev => by cases ev; rfl⟩, rfl, rfl, na, rfl, bare2, raises_own T.exC T.tyC, q2⟩
theorem pmk_x (c : MakX X.prog X.w X.K X.mg X.base k x C sp) (hr : Room j X.A) (hk : k + 1 ≤ j) (hx : Passes (L2N.CX X.prog X.w) X (fun _ _ _ => False)) (ha : PA X (e :: es) t) (hg : Gl X x := by rfl)
    (hdb : (x == ("__debug__" : Str)) = false := by decide) (he : starEach (e :: es) X.env = (false, eval e X.env) :: starEach es X.env := by rfl) (hpl : (backTo pos (starEach es X.env)).any (·.1) = false := by rfl) :
    L2N.PMk X (.Call (.Name x p) (e :: es) [] pos) (tMkO C sp [] t) := by
  obtain ⟨f, fd, ps, T, iC, tI, F, hm, b⟩ := c.ex
  intro pi s0 sl H0 Q0 J h0
  refine wpAny_Call_Name_kw (ld_glob J hg hm ?_ hdb)
  refine PySem.W.callWith_K (h₀ := X.base) J.ok.mod.kin T.kC (thn (ha.run pos pi s0 sl H0 _ J h0) fun us s1 ⟨xs, H1, J1, r1, hz, q1⟩ => ⟨J1.kIn, ?_⟩) he hpl
  exact run_exc T iC tI F (hr.mono hk) b hx J1 r1 hz q1
theorem passF : Passes (L2N.CX X.prog X.w) X (fun _ _ _ => False) := fun _ _ _ _ _ _ _ h => by
  obtain ⟨_, _, _, _, _, _, _, _, _, _, _, _, z⟩ := h
  exact z.elim
def rOwn1 (C : Addr) (sp : Sp) (E : XK) : V → Hp → VK → Prop := fun x H Q => ∃ a dx fs, x = .ref a ∧ H a = some (.ins C dx fs) ∧ sp [.ref a] H Q E
def rOwn2 (C : Addr) (sp : Sp) (E : XK) : R2 := fun x y H Q => ∃ a b dx dy fs gs, x = .ref a ∧ y = .ref b ∧ H a = some (.ins C dx fs) ∧ H b = some (.ins C dy gs) ∧ sp [.ref a, .ref b] H (fun v H' => (∃ q, v = .ref q) ∧ Q v H') E
theorem un_own (c : Met X.prog X.w X.K X.mg X.base k C "__neg__" sp []) (hr : Room j X.A) (hk : k ≤ j) {E : XK} (hx : Passes (L2N.CX X.prog X.w) X E) : UnR X (unaryOp .USub) (rOwn1 C sp E) := by
  intro pi s0 sl H0 y v Q0 J ry h0
  obtain ⟨a, dy, fs, rfl, ea, q⟩ := h0
  obtain rfl : v = Value.ref a := ry
  obtain ⟨f, fd, ps, ds, hc, hm, F, b, d⟩ := c.ex
  obtain ⟨mA, O, _⟩ := ins_get J.hok ea
  obtain ⟨od, I0, _⟩ := O.look
  obtain ⟨m0, fr⟩ := J.fr
  refine PySem.W.ksp_neg fr J.ok.mod.kin I0 hm.at_ hm.fn ?_
  exact run_fn (us := [.ref a]) (vs := [.ref a]) F (hr.mono hk) b d hx J (.cons rfl .nil) q
theorem ref_cls {pi : List (Addr × Obj)} {s0 : Shared} {sl : L2.St} {H0 : Hp} {b dy : Addr} {gs : List (Str × V)} (J : Inv X pi sl H0 s0) (eb : H0 b = some (.ins C dy gs)) {M : Model} : PySem.W.Looks M s0.heap (typeOf (.ref b)) (.ref C) := by
  obtain ⟨mA, O, _⟩ := ins_get J.hok eb
  obtain ⟨od, I0, _⟩ := O.look
  exact I0.type
theorem op_own {op : Operator} {m : Str} (hop : PySem.dunder op.info.2 = m) (hs : PySem.W.selfFirst X.K C = true) (c : Met X.prog X.w X.K X.mg X.base k C m sp []) (hr : Room j X.A) (hk : k ≤ j) {E : XK} (hx : Passes (L2N.CX X.prog X.w) X E) : OpR X (binaryOp op) (rOwn2 C sp E) := by
  intro pi s0 sl H0 y z v u Q0 J ry rz h0
  obtain ⟨a, b, dy, dz, fs, gs, rfl, rfl, ea, eb, q⟩ := h0
  obtain rfl : v = Value.ref a := ry
  obtain rfl : u = Value.ref b := rz
  obtain ⟨f, fd, ps, ds, hc, hm, F, bd, d⟩ := c.ex
  obtain ⟨mA, O, _⟩ := ins_get J.hok ea
  obtain ⟨od, I0, _⟩ := O.look
  obtain ⟨m0, fr⟩ := J.fr
  refine PySem.W.binop_K fr J.ok.mod.kin I0 (ref_cls J eb) hs (by rw [hop]; exact hm.at_) hm.fn ?_
  cases d
  refine wpAny_mono (run_fn (us := [.ref a, .ref b]) (vs := [.ref a, .ref b]) F (hr.mono hk) bd .nil hx J (.cons rfl (.cons rfl .nil)) q) (fun r s1 hq => ?_) fun _ _ z => z
  obtain ⟨v1, H1, J1, rv, ⟨q1, e1⟩, q2⟩ := hq
  subst e1
  obtain rfl : r = Value.ref q1 := rv
  exact ⟨.ref q1, H1, J1, rfl, q2⟩
def rOr (r r' : R2) : R2 := fun x y H Q => r x y H Q ∨ r' x y H Q
def rOr1 (r r' : V → Hp → VK → Prop) : V → Hp → VK → Prop := fun x H Q => r x H Q ∨ r' x H Q
theorem op_or2 {f : Value → Value → Sem Value} {r r' : R2} (h : OpR X f r) (h' : OpR X f r') : OpR X f (rOr r r') := by
  intro pi s0 sl H0 y z v u Q0 J ry rz h0
  rcases h0 with h0 | h0
  · exact h _ _ _ _ _ _ _ _ _ J ry rz h0
  · exact h' _ _ _ _ _ _ _ _ _ J ry rz h0
theorem un_or2 {f : Value → Sem Value} {r r' : V → Hp → VK → Prop} (h : UnR X f r) (h' : UnR X f r') : UnR X f (rOr1 r r') := by
  intro pi s0 sl H0 y v Q0 J ry h0
  rcases h0 with h0 | h0
  · exact h _ _ _ _ _ _ _ J ry h0
  · exact h' _ _ _ _ _ _ _ J ry h0
def zNeg : V → Hp → VK → Prop := fun x H Q => ∃ i, x = .int i ∧ Q (.int (-i)) H
def zAdd : R2 := fun x y H Q => ∃ i j, x = .int i ∧ y = .int j ∧ Q (.int (i + j)) H
def zSub : R2 := fun x y H Q => ∃ i j, x = .int i ∧ y = .int j ∧ Q (.int (i - j)) H
/-- a size of bits -/
def Bits (n : Nat) (i : Int) : Prop := i.natAbs < 2 ^ n
def zMul : R2 := fun x y H Q => ∃ i j, x = .int i ∧ y = .int j ∧ IntMulOk i j ∧ Q (.int (i * j)) H
def zDiv : R2 := fun x y H Q => ∃ i j, x = .int i ∧ y = .int j ∧ (j ≠ 0 ∧ j.natAbs.log2 < 9000) ∧ Q (.int (i.fdiv j)) H
def zMod : R2 := fun x y H Q => ∃ i j, x = .int i ∧ y = .int j ∧ 0 < j ∧ Q (.int (i % j)) H
def zPow : R2 := fun x y H Q => ∃ i j, x = .int i ∧ y = .int j ∧ CPow i j ∧ Q (.int (i ^ j.toNat)) H
def zLt : R2 := fun x y H Q => ∃ i j, x = .int i ∧ y = .int j ∧ Q (.bl (decide (i < j))) H
def zLe : R2 := fun x y H Q => ∃ i j, x = .int i ∧ y = .int j ∧ Q (.bl (decide (i ≤ j))) H
def zGt : R2 := fun x y H Q => ∃ i j, x = .int i ∧ y = .int j ∧ Q (.bl (decide (j < i))) H
def zGe : R2 := fun x y H Q => ∃ i j, x = .int i ∧ y = .int j ∧ Q (.bl (decide (j ≤ i))) H
def zIsN : R2 := fun x y H Q => y = .non ∧ Q (.bl (decide (x = .non))) H
def zNotN : R2 := fun x y H Q => y = .non ∧ Q (.bl (!decide (x = .non))) H
theorem o_neg : UnR X (unaryOp .USub) zNeg := un_neg
theorem o_add : OpR X (binaryOp .Add) zAdd := op_add
theorem o_sub : OpR X (binaryOp .Sub) zSub := op_sub
theorem o_mul : OpR X (binaryOp .Mult) zMul := opI fun _ _ _ _ _ _ _ hc q => mul_int q hc
theorem o_div : OpR X (binaryOp .FloorDiv) zDiv := opI (C := fun _ j => j ≠ 0 ∧ j.natAbs.log2 < 9000) fun _ _ _ _ _ _ _ hc q => floordiv_int hc.1 q (.inl (PyProof.noPylong_of_log2 hc.2))
theorem o_mod : OpR X (binaryOp .Mod) zMod := op_mod
theorem o_pow : OpR X (binaryOp .Pow) zPow := op_pow
theorem o_lt : OpR X (compareOp .Lt) zLt := op_lt
theorem o_le : OpR X (compareOp .LtE) zLe := op_le
theorem o_gt : OpR X (compareOp .Gt) zGt := op_gt
theorem o_ge : OpR X (compareOp .GtE) zGe := op_ge
theorem o_isN : OpR X (compareOp .Is) zIsN := op_isN
theorem o_notN : OpR X (compareOp .IsNot) zNotN := op_notN
end
section
variable {K : PySem.W.Frag} {σ : L2.St} {H : Hp} {Q : VK} {v : V} {ta tb te : TE} {r r' : R2}
theorem z_var {i : Nat} (h : σ[i]? = some (some v)) (q : Q v H) : tVar i σ H Q := ⟨v, h, q⟩
theorem z_c (q : Q v H) : tC v σ H Q := q
theorem z_op (q : ta σ H fun x H1 => tb σ H1 fun y H2 => r x y H2 Q) : tOp r ta tb σ H Q := q
theorem z_un {u : V → Hp → VK → Prop} (q : ta σ H fun x H1 => u x H1 Q) : tUn u ta σ H Q := q
theorem z_neg {i : Int} (q : Q (.int (-i)) H) : zNeg (.int i) H Q := ⟨i, rfl, q⟩
theorem z_add {i j : Int} (q : Q (.int (i + j)) H) : zAdd (.int i) (.int j) H Q := ⟨i, j, rfl, rfl, q⟩
theorem z_sub {i j : Int} (q : Q (.int (i - j)) H) : zSub (.int i) (.int j) H Q := ⟨i, j, rfl, rfl, q⟩
theorem z_mul {i j : Int} (c : IntMulOk i j) (q : Q (.int (i * j)) H) : zMul (.int i) (.int j) H Q := ⟨i, j, rfl, rfl, c, q⟩
theorem z_mulL {i j : Int} (h1 : -18446744073709551616 < i) (h2 : i < 18446744073709551616) (q : Q (.int (i * j)) H) : zMul (.int i) (.int j) H Q := z_mul (CMul.ok (.inl ⟨by simpa using h1, by simpa using h2⟩)) q
theorem z_mulR {i j : Int} (h1 : -18446744073709551616 < j) (h2 : j < 18446744073709551616) (q : Q (.int (i * j)) H) : zMul (.int i) (.int j) H Q := z_mul (CMul.ok (.inr ⟨by simpa using h1, by simpa using h2⟩)) q
theorem z_mulB {i j : Int} {a b : Nat} (ha : Bits a i) (hb : Bits b j) (h0 : 0 < a) (h1 : 0 < b) (h : a + b ≤ 1000000) (q : Q (.int (i * j)) H) : zMul (.int i) (.int j) H Q := z_mul (CMulW.ok (wide_mul ha hb h0 h1 h)) q
theorem z_divN {i j : Int} {b : Nat} (h : j ≠ 0) (hb : Bits b j) (h0 : 0 < b) (h9 : b ≤ 9000) (q : Q (.int (i.fdiv j)) H) : zDiv (.int i) (.int j) H Q := ⟨i, j, rfl, rfl, ⟨h, Nat.lt_of_lt_of_le (PySem.Flt.log2_lt_of h0 hb) h9⟩, q⟩
theorem z_div {i j : Int} {b : Nat} (h : 0 < j) (hb : Bits b j) (h0 : 0 < b) (h9 : b ≤ 9000) (q : Q (.int (i / j)) H) : zDiv (.int i) (.int j) H Q := z_divN (by omega) hb h0 h9 (by rw [Int.fdiv_eq_ediv_of_nonneg i (by omega)]; exact q)
theorem z_divS {i j : Int} (h : 0 < j) (h2 : j < 18446744073709551616) (q : Q (.int (i / j)) H) : zDiv (.int i) (.int j) H Q := z_div (b := 64) h (by unfold Bits; have e : (2 : Nat) ^ 64 = 18446744073709551616 := by decide
                                                                                                                                                      omega) (by decide) (by decide) q
theorem z_mod {i j : Int} (c : 0 < j) (q : Q (.int (i % j)) H) : zMod (.int i) (.int j) H Q := ⟨i, j, rfl, rfl, c, q⟩
theorem z_pow {i j : Int} (c : CPow i j) (q : Q (.int (i ^ j.toNat)) H) : zPow (.int i) (.int j) H Q := ⟨i, j, rfl, rfl, c, q⟩
theorem z_lt {i j : Int} (q : Q (.bl (decide (i < j))) H) : zLt (.int i) (.int j) H Q := ⟨i, j, rfl, rfl, q⟩
theorem z_le {i j : Int} (q : Q (.bl (decide (i ≤ j))) H) : zLe (.int i) (.int j) H Q := ⟨i, j, rfl, rfl, q⟩
theorem z_gt {i j : Int} (q : Q (.bl (decide (j < i))) H) : zGt (.int i) (.int j) H Q := ⟨i, j, rfl, rfl, q⟩
theorem z_ge {i j : Int} (q : Q (.bl (decide (j ≤ i))) H) : zGe (.int i) (.int j) H Q := ⟨i, j, rfl, rfl, q⟩
theorem z_isN {x : V} (q : Q (.bl (decide (x = .non))) H) : zIsN x .non H Q := ⟨rfl, q⟩
theorem z_notN {x : V} (q : Q (.bl (!decide (x = .non))) H) : zNotN x .non H Q := ⟨rfl, q⟩
theorem z_eqI {i j : Int} (q : Q (.bl (decide (i = j))) H) : rEq (.int i) (.int j) H Q := ⟨rfl, by
  have e : decide (V.int i = V.int j) = decide (i = j) := by rw [Bool.eq_iff_iff]; simp
  rw [e]; exact q⟩
theorem z_neI {i j : Int} (q : Q (.bl (!decide (i = j))) H) : rNe (.int i) (.int j) H Q := ⟨rfl, by
  have e : decide (V.int i = V.int j) = decide (i = j) := by rw [Bool.eq_iff_iff]; simp
  rw [e]; exact q⟩
theorem z_nil {QA : List V → Hp → Prop} (q : QA [] H) : tNil σ H QA := q
theorem z_cons {tr : TA} {QA : List V → Hp → Prop} (q : ta σ H fun x H1 => tr σ H1 fun xs H2 => QA (x :: xs) H2) : tCons ta tr σ H QA := q
theorem z_call {sp : Sp} {dvs : List V} {W : WX} {t : TA} (q : t σ H fun vs H1 => sp (vs ++ dvs) H1 Q (fun cls d H' => W cls d σ H')) : tCallW sp dvs W t σ H Q := q
theorem z_cb {rc : List V → Hp → VK → Prop} {t : TA} (q : t σ H fun vs H1 => rc vs H1 Q) : tCB rc t σ H Q := q
theorem z_if {tt : TT} (q : tt σ H fun c H1 => if c = true then ta σ H1 Q else tb σ H1 Q) : tIf tt ta tb σ H Q := q
theorem z_andV (q : ta σ H fun x H1 => ∃ c, x = .bl c ∧ if c = true then tb σ H1 Q else Q (.bl false) H1) : tAndV ta tb σ H Q := q
theorem z_orV (q : ta σ H fun x H1 => ∃ c, x = .bl c ∧ if c = true then Q (.bl true) H1 else tb σ H1 Q) : tOrV ta tb σ H Q := q
theorem z_notV (q : ta σ H fun x H1 => ∃ c, x = .bl c ∧ Q (.bl (!c)) H1) : tNotV ta σ H Q := q
variable {QB : Bool → Hp → Prop} {b : Bool} {tt tu : TT}
theorem z_test (q : te σ H fun x H1 => ∃ k, x = .bl k ∧ QB k H1) : tTest te σ H QB := q
theorem z_tb (q : te σ H fun x H1 => ∃ k, x = .bl k ∧ QB k H1) : tB te σ H QB := q
theorem z_bl (q : QB b H) : ∃ k, V.bl b = .bl k ∧ QB k H := ⟨b, rfl, q⟩
theorem z_blI {P : Bool → Prop} (q : P b) : ∃ k, V.bl b = .bl k ∧ P k := ⟨b, rfl, q⟩
theorem z_and (q : tt σ H fun c H1 => if c = true then tu σ H1 QB else QB false H1) : tAnd tt tu σ H QB := q
theorem z_or (q : tt σ H fun c H1 => if c = true then QB true H1 else tu σ H1 QB) : tOr tt tu σ H QB := q
theorem z_not (q : tt σ H fun c H1 => QB (!c) H1) : tNot tt σ H QB := q
variable {D : Ends} {t u : TS}
theorem z_seq (q : t { D with nx := u D } σ H) : tSeq t u D σ H := q
theorem z_next (q : D.nx σ H) : tNext D σ H := q
theorem z_asg {i : Nat} (q : te σ H fun x H1 => D.nx (σ.set i (some x)) H1) : tAsg te (gName i) D σ H := q
theorem z_ret (q : te σ H D.rt) : tRet te D σ H := q
theorem z_retN (q : D.rt .non H) : tRetN D σ H := q
theorem z_drop (q : te σ H fun _ H1 => D.nx σ H1) : tDrop te D σ H := q
theorem z_ifS (q : tt σ H fun b H1 => if b = true then t D σ H1 else u D σ H1) : tIfS tt t u D σ H := q
theorem z_par {i j : Nat} {ta : TA} (q : ta σ H fun vs H1 => ∃ v w, vs = [v, w] ∧ D.nx ((σ.set i (some v)).set j (some w)) H1) : tPar i j ta D σ H := q
theorem z_par2 {v w : V} {P : V → V → Prop} (q : P v w) : ∃ v' w', [v, w] = [v', w'] ∧ P v' w' := ⟨v, w, rfl, q⟩
theorem z_nx {n : L2.St → Hp → Prop} {rt : VK} {bk ct : L2.St → Hp → Prop} (q : n σ H) : Ends.nx ⟨n, rt, bk, ct⟩ σ H := q
theorem z_rt {n : L2.St → Hp → Prop} {rt : VK} {bk ct : L2.St → Hp → Prop} (q : rt v H) : Ends.rt ⟨n, rt, bk, ct⟩ v H := q
theorem z_bk {n : L2.St → Hp → Prop} {rt : VK} {bk ct : L2.St → Hp → Prop} (q : bk σ H) : Ends.bk ⟨n, rt, bk, ct⟩ σ H := q
theorem z_ct {n : L2.St → Hp → Prop} {rt : VK} {bk ct : L2.St → Hp → Prop} (q : ct σ H) : Ends.ct ⟨n, rt, bk, ct⟩ σ H := q
theorem z_break (q : D.bk σ H) : tBreak D σ H := q
theorem z_cont (q : D.ct σ H) : tCont D σ H := q
/-- a decided branch -/
theorem z_T {A B : Prop} (h : A) : if true = true then A else B := by rw [if_pos rfl]; exact h
theorem z_F {A B : Prop} (h : B) : if false = true then A else B := by rw [if_neg Bool.false_ne_true]; exact h
theorem z_dT {c : Prop} [Decidable c] {A B : Prop} (hc : c) (h : A) : if decide c = true then A else B := by rw [if_pos (decide_eq_true hc)]; exact h
theorem z_dF {c : Prop} [Decidable c] {A B : Prop} (hc : ¬ c) (h : B) : if decide c = true then A else B := by rw [decide_eq_false hc, if_neg Bool.false_ne_true]; exact h
theorem z_d2 {c : Prop} [Decidable c] {A B : Prop} (h1 : c → A) (h2 : ¬ c → B) : if decide c = true then A else B := by
  by_cases h : c
  · exact z_dT h (h1 h)
  · exact z_dF h (h2 h)
theorem z_nn {b : Bool} {A B : Prop} (h : if b = true then B else A) : if (!b) = true then A else B := by
  cases b
  · exact z_T (by simpa using h)
  · exact z_F (by simpa using h)
end
end Z
set_option maxHeartbeats 4000000
namespace Z
open PySem PySem.Spec PyProof.Rows L2
abbrev Frag := PySem.W.Frag
abbrev Chk := Frag → Bool
abbrev SeenZ : Type := Bool × List He.FnW
def seenK (fb : List Chk) (fn : List He.DefD) (K : Frag) : SeenZ := ((fb.all fun c => c K) && fn.all fun d => d.ok K, fn.map fun d => He.fnW K d.at_)
def dueK (fn : List He.DefD) : SeenZ := (true, fn.map He.DefD.val)
def Says (fb : List Chk) (fn : List He.DefD) (K : Frag) : Prop := seenK fb fn K = dueK fn
section
variable {fb : List Chk} {fn : List He.DefD} {K : Frag}
theorem Says.fact (c : Says fb fn K) (i : Nat) {f : Chk} (h : fb[i]? = some f := by rfl) : f K = true := by
  have q := (He.ba (congrArg (fun z : SeenZ => z.1) c)).1
  exact List.all_eq_true.mp q f (List.mem_of_getElem? h)
theorem Says.def_ (c : Says fb fn K) (i : Nat) {d : He.DefD} (h : fn[i]? = some d := by rfl) : ∃ fd, FunD K d.name d.qual d.params d.body d.scope (d.dvs K) (d.kws K) (He.fAd K d.at_) fd := by
  have q := (He.ba (congrArg (fun z : SeenZ => z.1) c)).2
  have e : fn.map (fun d => He.fnW K d.at_) = fn.map He.DefD.val := congrArg (fun z : SeenZ => z.2) c
  have e2 := congrArg (fun l => l[i]?) e
  simp only [List.getElem?_map, h, Option.map_some] at e2
  exact He.DefD.funD (Option.some.inj e2) (List.all_eq_true.mp q d (List.mem_of_getElem? h))
end
def cGlo (x : Str) : Chk := fun K => (He.Fa.glo x).ok K
def cFree (x : Str) : Chk := fun K => (He.Fa.free x).ok K
def cVal (x : Str) (id : String) : Chk := fun K => He.eqO (PySem.W.nsIn K mainGlobals x) (some (some (.builtin id)))
def cCls (x : Str) : Chk := fun K => (He.Fa.cls x).ok K
def cNo (x f : Str) : Chk := fun K => (He.Fa.noat x f).ok K
def cMeth (x m : Str) : Chk := fun K => (He.Fa.meth x m).ok K
def cMk (x : Str) : Chk := fun K => (He.Fa.mkr x).ok K
def cExc0 (x : Str) : Chk := fun K => (He.Fa.exc x).ok K
def cExm (x y : Str) (b : Bool) : Chk := fun K => (He.Fa.exm x y b).ok K
def cSelf (x : Str) : Chk := fun K => PySem.W.selfFirst K (He.ga K x)
/-- an exception class whose own __init__ is walked -/
def oexB (K : Frag) (C : Addr) : Bool := match K.lookup C with
  | some ⟨.type t, _, .cls cd, sl⟩ => (match cd.mro, sl.toList with
    | .ref C' :: bm, [_, _, _, _, some (.builtin n), _] => decide (t = "type") && (decide (C' = C) && (decide (n = "ValueError.__new__") && (!cd.hasDel && (cd.hasDict && PySem.HandSPX.refsVE bm))))
    | _, _ => false)
  | _ => false
theorem oexB_ok {K : Frag} {C : Addr} (h : oexB K C = true) : ∃ nm q N bs bm sn sub ab col dd k0 k1 k2 k3 k5, K.lookup C = some (excClassObj nm q C N bs bm true sn sub ab col dd k0 k1 k2 k3 k5 "ValueError.__new__") ∧ PySem.HandSPX.refsVE bm = true := by
  unfold oexB at h
  split at h
  · rename_i t dd cd sl ho
    split at h
    · rename_i C' bm k0 k1 k2 k3 n k5 hm hs
      obtain ⟨h1, h⟩ := He.ba h
      obtain ⟨h2, h⟩ := He.ba h
      obtain ⟨h3, h⟩ := He.ba h
      obtain ⟨h4, h⟩ := He.ba h
      obtain ⟨h5, h6⟩ := He.ba h
      have e1 := of_decide_eq_true h1
      have e2 := of_decide_eq_true h2
      have e3 := of_decide_eq_true h3
      obtain ⟨nm, bs, mro, ns, qn, hd, sn, sub, ab, col, del⟩ := cd
      have e4 : del = false := by simpa using h4
      have e5 : hd = true := h5
      dsimp only at hm
      subst hm e4 e5 e1 e2 e3
      have hsl : sl = #[k0, k1, k2, k3, some (.builtin "ValueError.__new__"), k5] := by
        obtain ⟨l⟩ := sl
        simp only at hs
        rw [hs]
      subst hsl
      exact ⟨nm, qn, ns, bs, bm, sn, sub, ab, col, dd, k0, k1, k2, k3, k5, ho, h6⟩
    · cases h
  · cases h
def cOex (x : Str) : Chk := fun K => oexB K (He.ga K x) && (He.eqO (PySem.W.findIn K (.ref (He.ga K x)) "__setattr__") (some (some (.builtin "object.__setattr__"))) && (decide (PySem.W.subIn K (.ref (He.ga K x)) (.type "BaseException") = some true) &&
  (decide (PySem.W.typeIn K (.ref (He.ga K x)) = some (.type "type")) && (PySem.W.keepIn K (.ref (He.ga K x)) && (He.eqO (PySem.W.findIn K (.ref (He.ga K x)) "__init__") (some (some (.ref (He.ma K (He.ga K x) "__init__")))) && decide (PySem.W.typeIn K (.ref (He.ma K (He.ga K x) "__init__")) = some (.type "function")))))))
theorem oex_ok {K : Frag} {x : Str} (h : cOex x K = true) : OexC K (He.ga K x) ∧ PySem.W.findIn K (.ref (He.ga K x)) "__init__" = some (some (.ref (He.ma K (He.ga K x) "__init__"))) ∧ PySem.W.typeIn K (.ref (He.ma K (He.ga K x) "__init__")) = some (.type "function") := by
  obtain ⟨h1, h⟩ := He.ba h
  obtain ⟨h2, h⟩ := He.ba h
  obtain ⟨h3, h⟩ := He.ba h
  obtain ⟨h4, h⟩ := He.ba h
  obtain ⟨h5, h⟩ := He.ba h
  obtain ⟨h6, h7⟩ := He.ba h
  exact ⟨⟨oexB_ok h1, He.eqO_ok h2, of_decide_eq_true h3, of_decide_eq_true h4, h5⟩, He.eqO_ok h6, of_decide_eq_true h7⟩
/-- an exception of this class caught: its fields, isinstance -/
def cExcC (x : Str) : Chk := fun K => He.eqO (PySem.W.findIn K (.ref (He.ga K x)) "__getattribute__") (some (some (.builtin "BaseException.__getattribute__"))) && (He.eqO (PySem.W.findIn K (.ref (He.ga K x)) "__getattr__") (some none) && (decide (PySem.W.subIn K (.ref (He.ga K x)) (.type "BaseException") = some true) &&
  (PySem.W.hasDictIn K (He.ga K x) && (He.eqO (PySem.W.findIn K (.ref (He.ga K x)) "__class__") (some (some (.builtin "object.__class__"))) && (decide (PySem.W.specialIn K (.builtin "object.__class__") "__get__" = some (some (.builtin "getset_descriptor.__get__"))) &&
  (decide (PySem.W.takesIn K (.builtin "object.__class__") = some true) && decide (PySem.W.mroIn K (He.ga K x) (.type "object") = some true)))))))
theorem excC_ok {K : Frag} {x : Str} (h : cExcC x K = true) : ExcC K (He.ga K x) := by
  obtain ⟨h1, h⟩ := He.ba h
  obtain ⟨h2, h⟩ := He.ba h
  obtain ⟨h3, h⟩ := He.ba h
  obtain ⟨h4, h⟩ := He.ba h
  obtain ⟨h5, h⟩ := He.ba h
  obtain ⟨h6, h⟩ := He.ba h
  obtain ⟨h7, h8⟩ := He.ba h
  exact ⟨He.eqO_ok h1, He.eqO_ok h2, of_decide_eq_true h3, h4, He.eqO_ok h5, of_decide_eq_true h6, of_decide_eq_true h7, of_decide_eq_true h8⟩
theorem _root_.L2.ExcC.xf {K : Frag} {C : Addr} (c : ExcC K C) : XfC K C := ⟨c.hg, c.hk, c.hs, c.hd⟩
/-- isinstance of an instance of this class -/
structure InsK (K : Frag) (C : Addr) : Prop where
  cl : Cls K C
  ha : PySem.W.findIn K (.ref C) "__class__" = some (some (.builtin "object.__class__"))
  hn : PySem.W.specialIn K (.builtin "object.__class__") "__get__" = some (some (.builtin "getset_descriptor.__get__"))
  ht : PySem.W.takesIn K (.builtin "object.__class__") = some true
  hm : PySem.W.mroIn K C (.type "object") = some true
theorem InsK.ty {K : Frag} {C a dx : Addr} {fs : List (Str × V)} {H : Hp} (c : InsK K C) (h : H a = some (.ins C dx fs)) : TyX K H (.ref a) (.ref C) := .base (.ins h c.cl c.ha c.hn c.ht c.hm)
def cIns (x : Str) : Chk := fun K => (He.Fa.cls x).ok K && (He.eqO (PySem.W.findIn K (.ref (He.ga K x)) "__class__") (some (some (.builtin "object.__class__"))) && (decide (PySem.W.specialIn K (.builtin "object.__class__") "__get__" = some (some (.builtin "getset_descriptor.__get__"))) &&
  (decide (PySem.W.takesIn K (.builtin "object.__class__") = some true) && decide (PySem.W.mroIn K (He.ga K x) (.type "object") = some true))))
theorem insK_ok {K : Frag} {x : Str} (h : cIns x K = true) : InsK K (He.ga K x) := by
  obtain ⟨h1, h⟩ := He.ba h
  obtain ⟨h5, h⟩ := He.ba h
  obtain ⟨h6, h⟩ := He.ba h
  obtain ⟨h7, h8⟩ := He.ba h
  exact ⟨He.cls_ok h1, He.eqO_ok h5, of_decide_eq_true h6, of_decide_eq_true h7, of_decide_eq_true h8⟩
/-- isinstance's answer for an instance of x asked for the class y; for a value of the built-in type t asked for y; for an instance of x asked for the built-in type t -/
def cKit (x y : Str) (b : Bool) : Chk := fun K => decide (PySem.W.kitOne K (.ref (He.ga K x)) (.ref (He.ga K y)) = some b)
def cKitT (t : String) (y : Str) (b : Bool) : Chk := fun K => decide (PySem.W.kitOne K (.type t) (.ref (He.ga K y)) = some b)
def cKitU (x : Str) (t : String) (b : Bool) : Chk := fun K => decide (PySem.W.kitOne K (.ref (He.ga K x)) (.type t) = some b)
def rIsX (K : Frag) (D : Addr) (a : Addr) : List V → Hp → VK → Prop := fun xs H Q => ∃ (c : V) (cv : Value) (b : Bool), xs = [.ref a, c] ∧ ClsV c cv ∧ PySem.W.kitOne K (.ref D) cv = some b ∧ Q (.bl b) H
/-- the caught one's class is D, its dict none or a tracked one -/
theorem call_isEx {X : Cx} {a D : Addr} {oe : Obj} {cls : Value} {d : Option Addr} {pn : List (Addr × Obj)} (C : ExcC X.K D) (hz : Zc cls d oe) (hf : ∃ vs, oe.data = .fields vs) :
    CallR (X.suite a ((a, oe) :: pn)) (.builtin "isinstance") (fun xs H Q => cls = .ref D ∧ (∀ dd, d = some dd → ∃ fs, H dd = some (.xd fs)) ∧ rIsX X.K D a xs H Q) := by
  intro pi s0 sl H0 xs us Q0 J r h0
  obtain ⟨ec, hd, c, cv, b, rfl, kc, e, q⟩ := h0
  obtain ⟨u1, u2, rfl, r1, r2⟩ := vals2 r
  obtain rfl : u1 = Value.ref a := r1
  have e2 := kc.eq r2
  subst e2
  subst ec
  obtain ⟨hget, _⟩ := J.pin (a, oe) (List.mem_append_left _ List.mem_cons_self)
  obtain ⟨vs, hv⟩ := hf
  have nc : PySem.W.notCls oe := by unfold PySem.W.notCls; rw [hv] <;> rfl
  have inst : ∃ od, PySem.W.InstAt s0.heap a oe D od := by
    cases d with
    | none => exact ⟨none, hget, hz.1, nc, by rw [hz.2]; trivial⟩
    | some dd =>
      obtain ⟨fs, hx⟩ := hd dd rfl
      have ox : ObjOk X.prog X.w H0 s0.heap dd (.xd fs) := J.hok dd _ hx
      obtain ⟨mA, hns, _⟩ := ox
      obtain ⟨od, ho, _⟩ := lookIn_ns hns
      exact ⟨some od, hget, hz.1, nc, by rw [hz.2]; exact ho⟩
  obtain ⟨od, I0⟩ := inst
  have hcl : (PySem.W.clsIn X.K D).isSome = true := by
    obtain ⟨cdD, hcD, _⟩ := PySem.W.any_some C.hd
    rw [hcD] <;> rfl
  exact PySem.W.kia_one (PySem.W.kitx_exc hcl C.hg C.hk C.hs C.ha C.hn C.ht C.hm) J.kIn I0 e (fun z => nomatch z) fun tk => ⟨.bl b, H0, J.kept (t' := tk) fun _ _ z => z, rfl, q⟩
section
variable {X : Cx} {k j : Nat} {sp : Sp} {x : Str} {p pos : Pos} {e : Expr} {es : List Expr} {t : TA}
theorem takesF {X : Cx} : L2N.Takes X (fun _ _ _ _ => False) := fun _ _ ⟨_, _, _, _, _, _, _, _, _, _, _, _, _, _, _, _, z⟩ => z.elim
theorem pe_ch (c : CalH X.prog X.w X.K X.mg X.base k x sp) (hr : L2H.RoomH j X.A) (hk : k ≤ j) (hot : L2H.HotC X) (ha : PA X (e :: es) t) (hg : Gl X x := by rfl)
    (hdb : (x == ("__debug__" : Str)) = false := by decide) (he : starEach (e :: es) X.env = (false, eval e X.env) :: starEach es X.env := by rfl) (hpl : (backTo pos (starEach es X.env)).any (·.1) = false := by rfl) :
    PE X (.Call (.Name x p) (e :: es) [] pos) (tCallW sp [] (fun _ _ _ _ => False) t) := by
  obtain ⟨f, fd, ps, F, hm, kp, b⟩ := c.ex
  have h := L2H.pe_callH (E := fun _ _ _ _ => False) F (hr.mono hk) hot hg hm kp b (fun σ => L2N.passAt takesF σ) ha (q := p) hdb he hpl
  refine ⟨fun pi s0 sl H0 Q0 J h0 => h.run pi s0 sl H0 Q0 J ?_⟩
  have e1 : (tCallW sp [] (fun _ _ _ _ => False) t) = L2.tCallS sp (fun _ _ _ _ => False) t := by
    unfold tCallW L2.tCallS
    funext σ H Q
    simp only [List.append_nil]
  rw [← e1]
  exact h0
end
theorem pe_ty {X : Cx} {x : Str} {pos : Pos} (n : String) (hg : Gl X x) (hm : X.mg x = none) (hv : bootBuiltins x = some (.type n)) (hn : x ≠ "__name__" := by decide) (hd : (x == ("__debug__" : Str)) = false := by decide) : PE X (.Name x pos) (tC (.ty n)) :=
  pe_bltn (v := .ty n) (u := .type n) hg hm hv rfl hn hd
theorem pe_cls {X : Cx} {x : Str} {pos : Pos} {a : Addr} (hm : X.mg x = some (.ref a)) (hg : Gl X x := by rfl) (hd : (x == ("__debug__" : Str)) = false := by decide) : PE X (.Name x pos) (tC (.ref a)) :=
  pe_glob (v := .ref a) (u := .ref a) hg hm rfl hd
abbrev F1 := V → Hp → VK → XK → Prop
abbrev F2 := V → V → Hp → VK → XK → Prop
abbrev F3 := V → V → V → Hp → VK → XK → Prop
abbrev F4 := V → V → V → V → Hp → VK → XK → Prop
abbrev F5 := V → V → V → V → V → Hp → VK → XK → Prop
def sp1 (f : F1) : Sp := fun vs H Q E => ∃ a, vs = [a] ∧ f a H Q E
def sp2 (f : F2) : Sp := fun vs H Q E => ∃ a b, vs = [a, b] ∧ f a b H Q E
def sp3 (f : F3) : Sp := fun vs H Q E => ∃ a b c, vs = [a, b, c] ∧ f a b c H Q E
def sp4 (f : F4) : Sp := fun vs H Q E => ∃ a b c d, vs = [a, b, c, d] ∧ f a b c d H Q E
def sp5 (f : F5) : Sp := fun vs H Q E => ∃ a b c d e, vs = [a, b, c, d, e] ∧ f a b c d e H Q E
section
variable {H : Hp} {Q : VK} {E : XK} {a b c d e g : V} {vs : List V}
theorem len1 {f : F1} : ∀ vs H Q E, sp1 f vs H Q E → vs.length = 1 := by rintro _ _ _ _ ⟨_, rfl, _⟩; rfl
theorem len2 {f : F2} : ∀ vs H Q E, sp2 f vs H Q E → vs.length = 2 := by rintro _ _ _ _ ⟨_, _, rfl, _⟩; rfl
theorem len3 {f : F3} : ∀ vs H Q E, sp3 f vs H Q E → vs.length = 3 := by rintro _ _ _ _ ⟨_, _, _, rfl, _⟩; rfl
theorem len4 {f : F4} : ∀ vs H Q E, sp4 f vs H Q E → vs.length = 4 := by rintro _ _ _ _ ⟨_, _, _, _, rfl, _⟩; rfl
theorem len5 {f : F5} : ∀ vs H Q E, sp5 f vs H Q E → vs.length = 5 := by rintro _ _ _ _ ⟨_, _, _, _, _, rfl, _⟩; rfl
theorem z_sq0 {sp : Sp} (h : sp vs H Q E) : sp (vs ++ []) H Q E := by rw [List.append_nil]; exact h
theorem z_sq1 {sp : Sp} (h : sp (a :: vs) H Q E) : sp (a :: (vs ++ [])) H Q E := by rw [List.append_nil]; exact h
end
end Z
namespace Z
open PySem PySem.Spec PyProof.Rows L2
/-- a def of which nothing is raised -/
theorem fn_quiet {P : Program} {w : World} {K : Frag} {mg : Str → Option Value} {base : Heap} {k : Nat} {f : Addr} {fd : FuncData} {ps : List Str} {sp : Sp} (F : FnOk P w K mg base (L2N.CX P w) k f fd ps sp) (hs : ∀ vs H Q E, sp vs H Q E → sp vs H Q (fun _ _ _ => False)) :
    FnOk P w K mg base L2.CX0 k f fd ps sp :=
  ⟨F.len, fun A outer s H args us vs Q E hr he hb hv h => codeAny_mono (F.run A outer s H args us vs Q _ hr he hb hv (hs _ _ _ _ h)) fun r s1 q => by
    match r, q with
    | .ok (.ret u), q => exact q
    | .error e, q =>
      obtain ⟨_, _, _, _, _, _, _, _, _, _, _, _, z⟩ := q
      exact z.elim⟩
end Z
set_option maxHeartbeats 4000000
namespace Z
open PySem PySem.Spec PyProof.Rows L2
section
variable {K : Frag} {H H' H1 H2 : Hp} {Q : VK} {a : Addr} {xs : List V} {o : HO}
theorem Same.at (e : Same H H') (h : H a = some o) : H' a = some o := e a o h
theorem Same.new {p : Addr} (h : H p = none) : Same H (upd H p o) := fun b u hb => by rw [upd_ne (ne_of_none hb h)]; exact hb
theorem z_ixT {p : Addr} {i : Int} {v : V} (h : H p = some (.tup xs)) (e : atI xs i = some v) (q : Q v H) : rIx K (.ref p) (.int i) H Q := .inr (.inl ⟨p, xs, i, v, rfl, rfl, SqT.of h, e, q⟩)
theorem z_ixL {p : Addr} {i : Int} {v : V} (h : SqL K H p xs) (e : atI xs i = some v) (q : Q v H) : rIx K (.ref p) (.int i) H Q := .inl ⟨p, xs, i, v, rfl, rfl, h, e, q⟩
theorem z_new {t : List V → HO} {n : Nat} (hn : n ≤ 16777216) (k : ∀ p, H p = none → Same H (upd H p (t xs)) → upd H p (t xs) p = some (t xs) → Q (.ref p) (upd H p (t xs))) : n ≤ sizeLine ∧ ∀ p, H p = none → Q (.ref p) (upd H p (t xs)) :=
  ⟨by rw [sizeLine_eq]; exact hn, fun p hp => k p hp (Same.new hp) upd_same⟩
def rInt1 : List V → Hp → VK → Prop := fun xs H Q => (∃ i, xs = [.int i] ∧ Q (.int i) H) ∨ ∃ k, xs = [.bl k] ∧ Q (.int (if k then 1 else 0)) H
def rAbs1 : List V → Hp → VK → Prop := fun xs H Q => ∃ i, xs = [.int i] ∧ Q (.int (if i < 0 then -i else i)) H
def rLen1 (K : Frag) : List V → Hp → VK → Prop := fun xs H Q => ∃ x n, xs = [x] ∧ LenV K x H n ∧ Q (.int n) H
theorem z_int1 {n : Int} (q : Q (.int n) H) : rInt1 [.int n] H Q := .inl ⟨n, rfl, q⟩
theorem z_intb {b : Bool} (q : Q (.int (if b then 1 else 0)) H) : rInt1 [.bl b] H Q := .inr ⟨b, rfl, q⟩
theorem z_abs {n : Int} (q : Q (.int (n.natAbs : Int)) H) : rAbs1 [.int n] H Q := ⟨n, rfl, by
  have e : (if n < 0 then -n else n) = (n.natAbs : Int) := by split <;> omega
  rw [e]; exact q⟩
theorem z_lenL {p : Addr} (h : SqL K H p xs) (q : Q (.int (xs.length : Int)) H) : rLen1 K [.ref p] H Q := ⟨_, _, rfl, .inl ⟨xs, h, rfl⟩, q⟩
theorem z_gcd {i j : Int} (q : Q (.int (Int.gcd i j : Nat)) H) : rGcd [.int i, .int j] H Q := ⟨i, j, rfl, q⟩
theorem z_isi {x c : V} {t u : Value} {b : Bool} (hc : ClsV c u) (ht : TyX K H x t) (hk : PySem.W.kitOne K t u = some b) (q : Q (.bl b) H) : rIsi K [x, c] H Q := ⟨x, c, t, u, b, rfl, hc, ht, hk, q⟩
theorem z_isiI {n : String} {b : Bool} {i : Int} (hk : kitB "int" n = some b) (q : Q (.bl b) H) : rIsi K [.int i, .ty n] H Q := z_isi (.ty n) (.base (.int i)) (kit_ty hk) q
theorem z_isiB {n : String} {b c : Bool} (hk : kitB "bool" n = some b) (q : Q (.bl b) H) : rIsi K [.bl c, .ty n] H Q := z_isi (.ty n) (.base (.bl c)) (kit_ty hk) q
theorem z_isi_ii {i : Int} (q : Q (.bl true) H) : rIsi K [.int i, .ty "int"] H Q := z_isiI (by decide +kernel) q
theorem z_isi_ib {i : Int} (q : Q (.bl false) H) : rIsi K [.int i, .ty "bool"] H Q := z_isiI (by decide +kernel) q
theorem cell_at {ns : List Int} {k : Int} (h0 : 0 ≤ k) (h : k < ((ns.map V.int).length : Int)) : atI (ns.map V.int) k = some (.int (ns.getD k.toNat 0)) := by
  obtain ⟨n, rfl⟩ := Int.eq_ofNat_of_zero_le h0
  have hn : n < ns.length := by
    rw [List.length_map] at h
    omega
  refine atI_nat ?_
  rw [List.getElem?_map, List.getElem?_eq_getElem hn]
  show some (V.int ns[n]) = some (V.int (ns.getD n 0))
  rw [List.getD_eq_getElem?_getD, List.getElem?_eq_getElem hn]
  rfl
end
section
variable {X : Cx}
theorem o_int1 : CallR X (.type "int") rInt1 := call_int1
theorem o_abs : CallR X (.builtin "abs") rAbs1 := call_abs
theorem o_len : CallR X (.builtin "len") (rLen1 X.K) := call_len
end
/-- the fields of a Ratio -/
def rF (v w : V) : List (Str × V) := [(("top" : Str), v), (("bottom" : Str), w)]
/-- a Ratio with these fields -/
def IsR (K : Frag) (H : Hp) (a : Addr) (t b : Int) : Prop := ∃ dx, H a = some (.ins (He.ga K "Ratio") dx (rF (.int t) (.int b)))
section
variable {K : Frag} {H H' : Hp} {Q : VK} {a : Addr} {t b : Int} {v w : V}
theorem IsR.mono (e : Same H H') (h : IsR K H a t b) : IsR K H' a t b := h.elim fun dx q => ⟨dx, e _ _ q⟩
theorem tb_ne : ¬ (("top" : Str) = "bottom") := by decide +kernel
theorem bt_ne : ¬ (("bottom" : Str) = "top") := by decide +kernel
theorem rf_top : (rF v w).lookup ("top" : Str) = some v := by
  unfold rF
  rw [lookup_put, if_pos rfl]
theorem rf_bottom : (rF v w).lookup ("bottom" : Str) = some w := by
  unfold rF
  rw [lookup_put, if_neg bt_ne, lookup_put, if_pos rfl]
theorem rf_no {m : Str} (h1 : ¬ m = "top") (h2 : ¬ m = "bottom") : (rF v w).lookup m = none := by
  unfold rF
  rw [lookup_put, if_neg h1, lookup_put, if_neg h2]
  rfl
/-- .. of a name that holds one -/
theorem z_fldt {i : Nat} {p : Addr} {t b : Int} {σ : L2.St} (c : Cls K (He.ga K "Ratio")) (n : NoAttr K (He.ga K "Ratio") "top") (hs : σ[i]? = some (some (.ref p))) (h : IsR K H p t b) (q : Q (.int t) H) : tFld K (tVar i) "top" σ H Q :=
  ⟨_, hs, h.elim fun dx hp => ⟨p, _, dx, _, _, rfl, hp, c, n, rf_top, q⟩⟩
theorem z_fldb {i : Nat} {p : Addr} {t b : Int} {σ : L2.St} (c : Cls K (He.ga K "Ratio")) (n : NoAttr K (He.ga K "Ratio") "bottom") (hs : σ[i]? = some (some (.ref p))) (h : IsR K H p t b) (q : Q (.int b) H) : tFld K (tVar i) "bottom" σ H Q :=
  ⟨_, hs, h.elim fun dx hp => ⟨p, _, dx, _, _, rfl, hp, c, n, rf_bottom, q⟩⟩
end
end Z
set_option maxHeartbeats 4000000
namespace Z
open PySem PySem.Spec PyProof.Rows L2
section
variable {P : Program} {w : World} {K : Frag} {mg : Str → Option Value} {base : Heap} {x qual : Str} {params : Arguments} {body : List Stmt} {scope : Scope} {dvs : List V} {kws : List (Str × V)} {f : Addr} {fd : FuncData}
theorem okH {N ps : List Str} {k : Nat} {sp : Sp} (F : FunD K x qual params body scope dvs kws f fd) (S : FnScope N ps scope) (len : ∀ vs H Q E, sp vs H Q E → vs.length = ps.length)
    (hbody : ∀ (cdv : Value) (A : Around) (outer : List Env) (s : Shared) (H : Hp) (vs : List V) (Q : VK) (E : XK) (p : Addr × Obj), L2H.Hot1 (A.deeper (envOfC qual scope s.heap.objs.size f cdv)) p → L2H.RoomH k (A.deeper (envOfC qual scope s.heap.objs.size f cdv)) → sp vs H Q E →
      ∃ t, PSs (L2H.cxH (L2N.CX P w) P w K mg base N qual scope f cdv A outer s H E p) body t ∧ t { nx := fun _ H' => Q .non H', rt := Q } (start N vs) H) : L2H.FnH P w K mg base (L2N.CX P w) (k + 1) f fd ps sp := by
  obtain ⟨oc, od, dV, kV, doc, pm, an, cdv, ct, osl, rfl, lk, hcd, _, _⟩ := F.ex
  exact L2H.fn_ofH lk hcd S len fun A outer s H vs Q E p h1 hr hsp => hbody cdv A outer s H vs Q E p h1 hr hsp
end
theorem hot_suite {X : Cx} {a : Addr} {oe : Obj} {cls : Value} {d : Option Addr} {pn : List (Addr × Obj)} (hz : L2N.Zn cls d oe) (hf : ∃ vs, oe.data = .fields vs) : L2H.HotC (X.suite a ((a, oe) :: pn)) := by
  obtain ⟨vs, hv⟩ := hf
  exact ⟨(a, oe), ⟨rfl, vs, hv, hz.2.2 vs hv⟩, List.mem_cons_self⟩
theorem room_suite {k : Nat} {A : Around} (r : Room k A) (h : Option Value) : L2H.RoomH k (A.mark h) := ⟨r.dp, r.un⟩
def fs_ex1 (K : Frag) (C : Str) (f : Str) : F2 := fun a b H Q _ => ∃ (e : Addr) (H0 : Hp), a = .ref e ∧ H = upd H0 e (exo e (He.ga K C) none) ∧ H0 e = none ∧
  ∀ (d : Addr) (H' : Hp), H' e = some (exo e (He.ga K C) (some d)) → H' d = some (exd d [(f, b)]) → H0 d = none → Same H0 (upd (del H' e) d (.xd [(f, b)])) → Q .non H'
section
variable {K : Frag} {H H0 : Hp} {Q : VK} {E : XK} {C : Str} {f g : Str} {b c : V} {D : Ends} {σ : L2.St}
/-- self.f = b -/
theorem run_ex1 {e : Addr} (T : OexC K (He.ga K C)) (nf : PySem.W.findIn K (.ref (He.ga K C)) f = some none) (h0 : H0 e = none) (s0 : σ[0]? = some (some (.ref e))) (s1 : σ[1]? = some (some b))
    (k : ∀ (d : Addr) (H' : Hp), H' e = some (exo e (He.ga K C) (some d)) → H' d = some (exd d [(f, b)]) → H0 d = none → Same H0 (upd (del H' e) d (.xd [(f, b)])) → D.nx σ H') :
    tOst K f (tVar 0) (tVar 1) D σ (upd H0 e (exo e (He.ga K C) none)) := by
  refine ⟨_, s1, _, s0, e, _, rfl, T, nf, .inl ⟨upd_same, fun d hd ne => ?_⟩⟩
  have hd0 : H0 d = none := by rw [upd_ne ne] at hd; exact hd
  refine k d _ upd_same (by rw [upd_ne ne, upd_same]) hd0 fun x o hx => ?_
  rw [upd_ne (ne_of_none hx hd0), del_ne (ne_of_none hx h0), upd_ne (ne_of_none hx h0), upd_ne (ne_of_none hx hd0), upd_ne (ne_of_none hx h0)]
  exact hx
end
def rc (n d : Int) : Int := if d < 0 then -((Int.gcd n d : Nat) : Int) else ((Int.gcd n d : Nat) : Int)
def rt (n d : Int) : Int := n.fdiv (rc n d)
def rb (n d : Int) : Int := d.fdiv (rc n d)
theorem rc_ne {n d : Int} (h : d ≠ 0) : rc n d ≠ 0 := by
  have : 0 < Int.gcd n d := Int.gcd_pos_of_ne_zero_right n h
  unfold rc
  split <;> omega
theorem rc_bits {n d : Int} {b : Nat} (h : d ≠ 0) (hb : Bits b d) : Bits b (rc n d) := by
  have h1 : Int.gcd n d ≤ d.natAbs := Nat.le_of_dvd (by omega) (by
    show Nat.gcd n.natAbs d.natAbs ∣ d.natAbs
    exact Nat.gcd_dvd_right _ _)
  unfold Bits at *
  unfold rc
  split <;> omega
theorem rt_pos {n d : Int} (h : 0 < d) : rt n d = n / (Int.gcd n d : Nat) ∧ rb n d = d / (Int.gcd n d : Nat) := by
  have e : rc n d = ((Int.gcd n d : Nat) : Int) := by unfold rc; rw [if_neg (by omega)]
  unfold rt rb
  rw [e, Int.fdiv_eq_ediv_of_nonneg _ (by omega), Int.fdiv_eq_ediv_of_nonneg _ (by omega)]
  exact ⟨rfl, rfl⟩
theorem rt_low {n d : Int} (h : 0 < d) (g : Int.gcd n d = 1) : rt n d = n ∧ rb n d = d := by
  obtain ⟨e1, e2⟩ := rt_pos (n := n) h
  rw [e1, e2, g]
  exact ⟨Int.ediv_one n, Int.ediv_one d⟩
theorem rt_spec {n d : Int} (h : 0 < d) : 0 < rb n d ∧ Int.gcd (rt n d) (rb n d) = 1 ∧ rt n d * d = n * rb n d := by
  obtain ⟨e1, e2⟩ := rt_pos (n := n) h
  have g0 : 0 < Int.gcd n d := Int.gcd_pos_of_ne_zero_right n (by omega)
  rw [e1, e2]
  refine ⟨?_, ?_, ?_⟩
  · exact Int.ediv_pos_of_pos_of_dvd h (by omega) (Int.gcd_dvd_right ..)
  · exact Int.gcd_ediv_gcd_ediv_gcd g0
  · obtain ⟨x, ex⟩ := Int.gcd_dvd_left (a := n) (b := d)
    obtain ⟨y, ey⟩ := Int.gcd_dvd_right (a := n) (b := d)
    generalize ((Int.gcd n d : Nat) : Int) = g at *
    have gn : g ≠ 0 := by
      intro z
      subst z
      simp at ey
      omega
    have q1 : n / g = x := by rw [ex, Int.mul_ediv_cancel_left _ gn]
    have q2 : d / g = y := by rw [ey, Int.mul_ediv_cancel_left _ gn]
    rw [q1, q2, ex, ey]
    grind
def fs_rinit (K : Frag) : F3 := fun a b c H Q E => ∃ (x dx : Addr) (H0 : Hp) (n d : Int), a = .ref x ∧ b = .int n ∧ c = .int d ∧ H = upd (upd H0 dx (.own x)) x (.ins (He.ga K "Ratio") dx []) ∧ H0 x = none ∧ H0 dx = none ∧ dx ≠ x ∧ Bits 8999 d ∧
  (d ≠ 0 → ∀ H', Same H0 H' → IsR K H' x (rt n d) (rb n d) → Q .non H') ∧ (d = 0 → ∀ H', Same H0 H' → E (.ref (He.ga K "ZeroBottom")) none H')
section
variable {K : Frag} {H : Hp} {Q : VK} {E : XK}
/-- Ratio(n, d) -/
theorem z_mkR {n d : Int} (hd : d ≠ 0) (hb : Bits 8999 d) (k : ∀ p H', Same H H' → IsR K H' p (rt n d) (rb n d) → Q (.ref p) H') :
    ∀ x dx, H x = none → H dx = none → dx ≠ x → sp3 (fs_rinit K) [.ref x, .int n, .int d] (upd (upd H dx (.own x)) x (.ins (He.ga K "Ratio") dx [])) (fun v H2 => v = .non ∧ Q (.ref x) H2) E :=
  fun x dx hx hdx ne => ⟨_, _, _, rfl, x, dx, H, n, d, rfl, rfl, rfl, rfl, hx, hdx, ne, hb, fun _ H' e r => ⟨rfl, k x H' e r⟩, fun z => absurd z hd⟩
/-- the two stores -/
theorem run_rinit {D : Ends} {σ : L2.St} {x dx : Addr} {H0 : Hp} {C : Addr} {tv tu : TE} {a b : V} (cl : Cls K C) (n1 : NoAttr K C "top") (n2 : NoAttr K C "bottom") (h0 : H0 x = none) (h1 : H0 dx = none) (ne : dx ≠ x) (s0 : σ[0]? = some (some (.ref x)))
    (e1 : ∀ H1, ∀ Q : VK, Q a H1 → tv σ H1 Q) (e2 : ∀ H1, ∀ Q : VK, Q b H1 → tu σ H1 Q) (k : ∀ H', Same H0 H' → H' x = some (.ins C dx (rF a b)) → D.nx σ H') :
    tSeq (sFld K (tVar 0) tv "top") (sFld K (tVar 0) tu "bottom") D σ (upd (upd H0 dx (.own x)) x (.ins C dx [])) := by
  refine e1 _ _ ⟨_, s0, x, C, dx, _, rfl, upd_same, cl, n1, by decide, ?_⟩
  refine e2 _ _ ⟨_, s0, x, C, dx, _, rfl, upd_same, cl, n2, by show 1 < 1000; decide, ?_⟩
  refine k _ (fun y o hy => ?_) ?_
  · rw [upd_ne (ne_of_none hy h0), upd_ne (ne_of_none hy h0), upd_ne (ne_of_none hy h0), upd_ne (ne_of_none hy h1)]
    exact hy
  · rw [upd_same]
    have e : putF "bottom" b (putF "top" a []) = rF a b := by
      show (if ("top" : Str) = "bottom" then _ else (("top" : Str), a) :: putF "bottom" b []) = _
      rw [if_neg tb_ne]
      rfl
    rw [e]
end
end Z
namespace Z
open PySem PySem.Spec PyProof.Rows L2
section
variable {K : Frag} {x qual : Str} {params : Arguments} {body : List Stmt} {scope : Scope} {dvs : List V} {kws : List (Str × V)} {f : Addr} {fd : FuncData} {ps : List Str}
/-- .. all defaults overruled -/
theorem kbD (F : FunD K x qual params body scope dvs kws f fd) (n : Nat) (ks : List Str) (hd : dvs ≠ [])
    (h : ∀ (T : Addr) (kV doc pm : Value) (an : Option Addr) (cdv ct : Value) (us its ws : List Value), us.length = n → its.length = dvs.length → ws.length = ks.length →
      ∃ k, bindArgs (PySem.W.fnOf x qual params body scope (.ref T) kV doc pm an cdv ct) ⟨us, ks.zip ws⟩ = seqItems? (.ref T) >>= k ∧ k (some its.toArray) = pure (ps.zip (us ++ ws.reverse))) :
    KBn K fd ps n ks (fun us ws => us ++ ws.reverse) (fun vs zs => vs ++ zs.reverse) := by
  obtain ⟨its, h2⟩ := F.kbindsD (ps := ps) n ks (fun us _ ws => us ++ ws.reverse) hd (fun r1 _ r3 => r1.append r3.reverse) h
  exact h2
end
end Z
set_option maxHeartbeats 4000000
namespace Z
open PySem PySem.Spec PyProof.Rows L2
section
variable {K : Frag} {σ : L2.St} {H : Hp} {Q : VK} {v : V} {ta tb te : TE} {t : TA} {sp : Sp} {dvs : List V} {W : WX} {C : Addr} {m : Str} {E : XK}
/-- a class is made of these values -/
def zMk (C : Addr) (sp : Sp) (dvs : List V) (E : XK) (vs : List V) (H : Hp) (Q : VK) : Prop := ∀ x dx, H x = none → H dx = none → dx ≠ x → sp (.ref x :: (vs ++ dvs)) (upd (upd H dx (.own x)) x (.ins C dx [])) (fun v H2 => v = .non ∧ Q (.ref x) H2) E
theorem z_mk (q : t σ H fun vs H1 => zMk C sp dvs (fun cls d H' => W cls d σ H') vs H1 Q) : tMakeW C sp dvs W t σ H Q := q
/-- a method of this value -/
def zMt (C : Addr) (m : Str) (x : V) (H : Hp) (R : Prop) : Prop := ∃ a dx fs, x = .ref a ∧ H a = some (.ins C dx fs) ∧ fs.lookup m = none ∧ R
theorem z_mt (q : ta σ H fun x H1 => zMt C m x H1 (t σ H1 fun vs H2 => sp (x :: (vs ++ dvs)) H2 Q (fun cls d H' => W cls d σ H'))) : tMethW C m sp dvs W ta t σ H Q := q
theorem z_mtR {p : Addr} {a b : Int} {R : Prop} (h : IsR K H p a b) (q : R) (h1 : ¬ m = "top" := by decide +kernel) (h2 : ¬ m = "bottom" := by decide +kernel) : zMt (He.ga K "Ratio") m (.ref p) H R := h.elim fun dx hp => ⟨p, dx, _, rfl, hp, rf_no h1 h2, q⟩
/-- a sign before a Ratio -/
theorem z_ownN {p : Addr} {a b : Int} {u : V → Hp → VK → Prop} (h : IsR K H p a b) (q : sp [.ref p] H Q E) : rOr1 u (rOwn1 (He.ga K "Ratio") sp E) (.ref p) H Q := .inr (h.elim fun dx hp => ⟨p, dx, _, rfl, hp, q⟩)
theorem z_ownI {i : Int} {u : V → Hp → VK → Prop} (q : u (.int i) H Q) : rOr1 u (rOwn1 C sp E) (.int i) H Q := .inl q
/-- numbers of up to 200 bits -/
theorem bits_of {i : Int} (h1 : -1606938044258990275541962092341162602522202993782792835301376 < i) (h2 : i < 1606938044258990275541962092341162602522202993782792835301376) : Bits 200 i := by
  unfold Bits
  have e : (2 : Nat) ^ 200 = 1606938044258990275541962092341162602522202993782792835301376 := by decide
  omega
theorem bits_up {i : Int} {a b : Nat} (h : Bits a i) (hb : a ≤ b) : Bits b i := Nat.lt_of_lt_of_le h (Nat.pow_le_pow_right (by decide) hb)
theorem z_mulW {i j : Int} (h1 : -1606938044258990275541962092341162602522202993782792835301376 < i) (h2 : i < 1606938044258990275541962092341162602522202993782792835301376) (h3 : -1606938044258990275541962092341162602522202993782792835301376 < j) (h4 : j < 1606938044258990275541962092341162602522202993782792835301376) (q : Q (.int (i * j)) H) : zMul (.int i) (.int j) H Q :=
  z_mulB (bits_of h1 h2) (bits_of h3 h4) (by decide) (by decide) (by decide) q
theorem z_divW {i j : Int} (h : 0 < j) (h2 : j < 1606938044258990275541962092341162602522202993782792835301376) (q : Q (.int (i / j)) H) : zDiv (.int i) (.int j) H Q := z_div h (bits_of (by omega) h2) (by decide) (by decide) q
theorem z_mkR1 {n : Int} (k : ∀ p H', Same H H' → IsR K H' p n 1 → Q (.ref p) H') : zMk (He.ga K "Ratio") (sp3 (fs_rinit K)) [.int 1] E [.int n] H Q :=
  z_mkR (n := n) (d := 1) (by decide) (bits_up (bits_of (by decide) (by decide)) (by decide)) fun p H' s h => k p H' s (by
    obtain ⟨e1, e2⟩ := rt_low (n := n) (d := 1) (by decide) (Int.gcd_one_right ..)
    rw [e1, e2] at h
    exact h)
/-- isinstance of a Ratio -/
theorem z_isR {p : Addr} {a b : Int} {C2 : Addr} {c : Bool} (I : InsK K (He.ga K "Ratio")) (hk : PySem.W.kitOne K (.ref (He.ga K "Ratio")) (.ref C2) = some c) (h : IsR K H p a b) (q : Q (.bl c) H) : rIsi K [.ref p, .ref C2] H Q := by
  obtain ⟨dx, hp⟩ := h
  exact z_isi (.own C2) (I.ty hp) hk q
def zRg (g : TG) (tb : TS) (D : Ends) (σ : L2.St) (vs : List V) (H1 : Hp) : Prop := ∃ i j : Int, vs = [.int i, .int j] ∧ (-(2 ^ 62) ≤ i ∧ i < 2 ^ 62 ∧ -(2 ^ 62) ≤ j ∧ j < 2 ^ 62) ∧ ∃ W : Nat → Nat → L2.St → Hp → Prop, (∃ m, W 0 m σ H1) ∧ ∀ k m σ H, W k m σ H →
    ((Itr i (j - i).toNat).stop k H ∧ D.nx σ H) ∨ ((Itr i (j - i).toNat).go k H ∧ ∃ N : L2.St → Hp → Prop, (∀ σ' H', N σ' H' → ∃ m', m' < m ∧ W (k + 1) m' σ' H') ∧ ∀ x H', (Itr i (j - i).toNat).yld k H x H' → g x σ H' fun σ2 H2 => tb { D with nx := N, ct := N, bk := D.nx } σ2 H2)
theorem z_for2 {g : TG} {tb : TS} {D : Ends} (q : t σ H fun vs H1 => zRg g tb D σ vs H1) : tFor (iRng2 t) g tb D σ H := q
/-- an exception with two fields is made -/
def zMkO (C : Addr) (sp : Sp) (dvs : List V) (vs : List V) (H1 : Hp) (Q : XK) : Prop := vs.length ≤ 1000 ∧ ∀ a, H1 a = none → sp (.ref a :: (vs ++ dvs)) (upd H1 a (exo a C none)) (fun v H2 => v = .non ∧ ∃ (d : Addr) (fs : List (Str × V)), H2 a = some (exo a C (some d)) ∧ H2 d = some (exd d fs) ∧ H1 d = none ∧ Q (.ref C) (some d) (upd (del H2 a) d (.xd fs))) (fun _ _ _ => False)
theorem z_mko {Q : XK} (q : t σ H fun vs H1 => zMkO C sp dvs vs H1 Q) : tMkO C sp dvs t σ H Q := q
theorem z_exo1 {c f : Str} {u : V} {Q : XK} (k : ∀ (d : Addr) (H' : Hp), Same H H' → H' d = some (.xd [(f, u)]) → Q (.ref (He.ga K c)) (some d) H') : zMkO (He.ga K c) (sp2 (fs_ex1 K c f)) [] [u] H Q :=
  ⟨by show 1 ≤ 1000; decide, fun a ha => ⟨_, _, rfl, a, H, rfl, rfl, ha, fun d H' e1 e2 hd s => ⟨rfl, d, _, e1, e2, hd, k d _ s upd_same⟩⟩⟩
end
end Z
namespace Z
open PySem PySem.Spec PyProof.Rows L2
section
variable {K : Frag} {σ : L2.St} {H : Hp} {Q : VK} {ta : TE} {t : TA} {g : TG}
/-- a tuple, a list just made -/
theorem z_newT {xs : List V} (hn : xs.length ≤ 16777216) (k : ∀ p, H p = none → Same H (upd H p (.tup xs)) → upd H p (.tup xs) p = some (.tup xs) → Q (.ref p) (upd H p (.tup xs))) : xs.length ≤ sizeLine ∧ ∀ p, H p = none → Q (.ref p) (upd H p (.tup xs)) :=
  z_new (t := .tup) hn k
theorem z_gn {i : Nat} {v : V} {D : L2.St → Hp → Prop} (q : D (σ.set i (some v)) H) : gName i v σ H D := q
theorem z_gcons {u : TGs} {v : V} {vs : List V} {D : L2.St → Hp → Prop} (q : g v σ H fun σ' H' => u vs σ' H' D) : gCons g u (v :: vs) σ H D := ⟨v, vs, rfl, q⟩
theorem z_gnil {D : L2.St → Hp → Prop} (q : D σ H) : gNil [] σ H D := ⟨rfl, q⟩
/-- a tuple taken apart -/
theorem z_gtup {D : L2.St → Hp → Prop} {p : Addr} {xs : List V} {n : Nat} {ts : TGs} (h : H p = some (.tup xs)) (hl : xs.length = n) (q : ts xs σ H D) : gTup K n ts (.ref p) σ H D := ⟨p, xs, rfl, SqT.of h, hl, q⟩
/-- two ends: a tuple of two tuples -/
def IsE (H : Hp) (e : Addr) (lt lb ht hb : Int) : Prop := ∃ a b, H e = some (.tup [.ref a, .ref b]) ∧ H a = some (.tup [.int lt, .int lb]) ∧ H b = some (.tup [.int ht, .int hb])
theorem IsE.mono {H' : Hp} {e : Addr} {lt lb ht hb : Int} (s : Same H H') (h : IsE H e lt lb ht hb) : IsE H' e lt lb ht hb := by
  obtain ⟨a, b, h1, h2, h3⟩ := h
  exact ⟨a, b, s _ _ h1, s _ _ h2, s _ _ h3⟩
def zNewT (xs : List V) (H : Hp) (Q : VK) : Prop := xs.length ≤ sizeLine ∧ ∀ p, H p = none → Q (.ref p) (upd H p (.tup xs))
def zNewL (xs : List V) (H : Hp) (Q : VK) : Prop := xs.length ≤ sizeLine ∧ ∀ p, H p = none → Q (.ref p) (upd H p (.lst xs))
theorem z_tupN (q : t σ H fun xs H1 => zNewT xs H1 Q) : tTup t σ H Q := q
theorem z_lstN (q : t σ H fun xs H1 => zNewL xs H1 Q) : tLst t σ H Q := q
theorem z_asgG {te : TE} {D : Ends} (q : te σ H fun x H1 => g x σ H1 D.nx) : tAsg te g D σ H := q
/-- the new heap under its own name -/
theorem z_nt {xs : List V} (hn : xs.length ≤ 16777216) (k : ∀ p H', H p = none → Same H H' → H' p = some (.tup xs) → Q (.ref p) H') : zNewT xs H Q :=
  z_newT hn fun p h1 h2 h3 => k p _ h1 h2 h3
end
end Z
set_option maxHeartbeats 4000000
namespace Z
open PySem PySem.Spec PyProof.Rows L2
section
variable {K : Frag} {σ : L2.St} {H : Hp} {Q : VK} {te : TE} {t tk : TA} {sp : Sp} {E : XK}
theorem z_nlR {xs : List V} (hn : xs.length ≤ 16777216) (k : ∀ p H', H p = none → Same H H' → H' p = some (.lst xs) → Q (.ref p) H') : zNewL xs H Q :=
  z_new (t := .lst) hn fun p h1 h2 h3 => k p _ h1 h2 h3
theorem z_p6 (q : Q (.int 1000000) H) : zPow (.int 10) (.int 6) H Q := z_pow ⟨by decide, by decide, by decide⟩ q
theorem z_p12 (q : Q (.int 1000000000000) H) : zPow (.int 10) (.int 12) H Q := z_pow ⟨by decide, by decide, by decide⟩ q
theorem z_p13 (q : Q (.int 10000000000000) H) : zPow (.int 10) (.int 13) H Q := z_pow ⟨by decide, by decide, by decide⟩ q
theorem z_calln {n m : Nat} {gV : List V → List V → List V} (q : t σ H fun vs H1 => tk σ H1 fun zs H2 => vs.length = n ∧ zs.length = m ∧ sp (gV vs zs) H2 Q E) : tCallN n m sp gV E t tk σ H Q := q
/-- a field of the caught exception -/
def zXf (a : Addr) (cls : Value) (d : Option Addr) (C : Addr) (f : Str) (x : V) (H : Hp) (Q : VK) : Prop := x = .ref a ∧ cls = .ref C ∧ ∃ (dd : Addr) (fs : List (Str × V)) (v : V), d = some dd ∧ H dd = some (.xd fs) ∧ fs.lookup f = some v ∧ Q v H
theorem z_xfS {a : Addr} {cls : Value} {d : Option Addr} {C : Addr} {f : Str} (q : te σ H fun x H1 => zXf a cls d C f x H1 Q) : tXf a cls d C f te σ H Q := q
theorem z_xf {a d C : Addr} {f : Str} {fs : List (Str × V)} {v : V} (h : H d = some (.xd fs)) (l : fs.lookup f = some v) (q : Q v H) : zXf a (.ref C) (some d) C f (.ref a) H Q := ⟨rfl, rfl, d, fs, v, rfl, h, l, q⟩
/-- isinstance of the caught exception -/
theorem z_isX {a d D C : Addr} {fs : List (Str × V)} {b : Bool} (h : H d = some (.xd fs)) (hk : PySem.W.kitOne K (.ref D) (.ref C) = some b) (q : Q (.bl b) H) :
    (.ref D : Value) = .ref D ∧ (∀ dd, some d = some dd → ∃ fs, H dd = some (.xd fs)) ∧ rIsX K D a [.ref a, .ref C] H Q :=
  ⟨rfl, fun dd e => by cases e; exact ⟨fs, h⟩, _, _, b, rfl, .own C, hk, q⟩
/-- a caught exception goes into the clause -/
theorem z_as {cls c : Value} {i : Nat} {ts : Addr → Value → Option Addr → TS} {Wout : WX} {D : Ends} {d : Option Addr} (hk : PySem.W.exmOne K cls c = some true)
    (q : ∀ a, H a = none → ts a cls d { nx := fun σ' H' => D.nx (σ'.set i none) H', rt := D.rt, bk := fun σ' H' => D.bk (σ'.set i none) H', ct := fun σ' H' => D.ct (σ'.set i none) H' } (σ.set i (some (.ref a))) H) : wAs K c i ts Wout D cls d σ H :=
  ⟨true, hk, fun _ => q, fun z => nomatch z⟩
end
/-- indexing, the fragment under its own name -/
theorem ix_seqK {X : Cx} {K : Frag} (h : X.K = K) : IxR X (rIx K) := by subst h; exact ix_seq
/-- the law's promise -/
def fs_law (K : Frag) : F1 := fun a H Q _ => ∃ (p : Addr) (ns : List Int), a = .ref p ∧ SqL K H p (ns.map V.int) ∧ ns.length ≤ 63 ∧ ∀ H', Q (.bl true) H'
theorem law_quiet {P : Program} {w : World} {K : Frag} {mg : Str → Option Value} {base : Heap} {j k : Nat} {f : Addr} {fd : FuncData} {ps : List Str} (F : FnOk P w K mg base (L2N.CX P w) j f fd ps (sp1 (fs_law K))) (h : j ≤ k) : FnOk P w K mg base L2.CX0 k f fd ps (sp1 (fs_law K)) :=
  (fn_quiet F fun _ _ _ _ h => h).mono h
theorem cut63 {ns : List Int} (h : ns.length ≤ 63) : cutV (ns.map V.int) none (some 63) = ns.map V.int := by
  have hl : (ns.map V.int).length ≤ 63 := by rw [List.length_map]; exact h
  generalize ns.map V.int = xs at *
  have e : HT.sIx xs.length xs.length (some 63) = xs.length := by
    have q := HT.sIx_nat xs.length xs.length 63
    rw [show ((63 : Nat) : Int) = 63 from rfl] at q
    rw [q]
    omega
  unfold cutV
  rw [e, HT.sIx_none, Nat.sub_zero, List.drop_zero, List.take_length]
end Z
set_option maxHeartbeats 4000000
namespace Z
open PySem PySem.Spec PyProof.Rows L2
section
variable {X : Cx}
def zCat : R2 := rOr zAdd rCat
def zRep : R2 := rOr zMul rRep
theorem o_cat : OpR X (binaryOp .Add) zCat := op_or2 o_add op_cat
theorem o_rep : OpR X (binaryOp .Mult) zRep := op_or2 o_mul op_rep
end
section
variable {K : Frag} {σ : L2.St} {H : Hp} {Q : VK} {a b : Addr} {xs ys : List V}
theorem lkA {f : Str} {v : V} {r : List (Str × V)} : ((f, v) :: r).lookup f = some v := by rw [lookup_put, if_pos rfl]
theorem pfA {f : Str} {u v : V} {r : List (Str × V)} : putF f v ((f, u) :: r) = (f, v) :: r := by
  show (if f = f then _ else _) = _
  rw [if_pos rfl]
theorem z_catI {i j : Int} (q : Q (.int (i + j)) H) : zCat (.int i) (.int j) H Q := .inl (z_add q)
theorem z_cat (h1 : H a = some (.lst xs)) (h2 : H b = some (.lst ys)) (hn : xs.length + ys.length ≤ 16777216) (k : ∀ p H', H p = none → Same H H' → H' p = some (.lst (xs ++ ys)) → Q (.ref p) H') : zCat (.ref a) (.ref b) H Q :=
  .inr ⟨a, b, xs, ys, rfl, rfl, h1, h2, by rw [sizeLine_eq]; exact hn, fun p hp => k p _ hp (Same.new hp) upd_same⟩
theorem z_repL {i j : Int} (h1 : -18446744073709551616 < i) (h2 : i < 18446744073709551616) (q : Q (.int (i * j)) H) : zRep (.int i) (.int j) H Q := .inl (z_mulL h1 h2 q)
theorem z_repR {i j : Int} (h1 : -18446744073709551616 < j) (h2 : j < 18446744073709551616) (q : Q (.int (i * j)) H) : zRep (.int i) (.int j) H Q := .inl (z_mulR h1 h2 q)
/-- len, list(), tuple(), any() of a list -/
theorem z_lenLst (h : H a = some (.lst xs)) (q : Q (.int (xs.length : Int)) H) : rLen1 K [.ref a] H Q := z_lenL (SqL.of h) q
def rList1 (K : Frag) : List V → Hp → VK → Prop := fun vs H Q => ∃ p ys, vs = [.ref p] ∧ (SqL K H p ys ∨ SqT K H p ys) ∧ ∀ l, H l = none → Q (.ref l) (upd H l (.lst ys))
theorem z_listT (h : H a = some (.tup xs)) (k : ∀ p H', H p = none → Same H H' → H' p = some (.lst xs) → Q (.ref p) H') : rList1 K [.ref a] H Q := ⟨a, xs, rfl, .inr (SqT.of h), fun p hp => k p _ hp (Same.new hp) upd_same⟩
theorem o_list1 {X : Cx} : CallR X (.type "list") (rList1 X.K) := call_list_of
theorem z_allB {bs : List Bool} (h : H a = some (.lst (bs.map V.bl))) (q : Q (.bl (bs.all id)) H) : rAll K [.ref a] H Q := ⟨a, bs, rfl, SqL.of h, q⟩
theorem z_tsl {r : V → Option Int → Option Int → Hp → VK → Prop} {te : TE} {tl th : TO} (q : te σ H fun x H1 => tl σ H1 fun l H2 => th σ H2 fun u H3 => r x l u H3 Q) : tSl r te tl th σ H Q := q
theorem z_np {QO : Option Int → Hp → Prop} (q : QO none H) : tNoPart σ H QO := q
theorem z_pt {te : TE} {QO : Option Int → Hp → Prop} (q : te σ H fun x H1 => ∃ i, x = .int i ∧ QO (some i) H1) : tPart te σ H QO := q
theorem z_pti {i : Int} {P : Int → Prop} (q : P i) : ∃ j, V.int i = .int j ∧ P j := ⟨i, rfl, q⟩
end
section
variable {K : Frag} {σ : L2.St} {H1 : Hp} {Q : VK} {te : TE} {i j : Nat} {t : TA}
/-- what a comprehension's body is to give: the new list at D within -/
def zLc (J : It) (g : TG) (tt : TT) (te : TE) (vs : List Nat) (σ : L2.St) (H1 : Hp) (Q : VK) : Prop := ∀ D, H1 D = none → ∃ W : Nat → Nat → Hp → Prop, (∃ m, W 0 m (upd H1 D (.lst []))) ∧ ∀ i m H, W i m H →
  (J.stop i H ∧ Q (.ref D) H) ∨ (J.go i H ∧ ∃ Nx : Hp → Prop, (∀ H', Nx H' → ∃ m', m' < m ∧ W (i + 1) m' H') ∧ ∀ x H', J.yld i H x H' → g x (wipe σ vs) H' fun σ2 H2 => wipe σ2 vs = wipe σ vs ∧ tt σ2 H2 fun b H3 =>
    if b = true then te σ2 H3 fun y H4 => ∃ acc, H4 D = some (.lst acc) ∧ acc.length < sizeLine ∧ Nx (upd H4 D (.lst (acc ++ [y]))) else Nx H3)
/-- each turn gives f of its number, all that stood stands -/
theorem z_lcF {J : It} {n : Nat} {G : Hp → Prop} {Y : Nat → Hp → V → Hp → Prop} {g : TG} {vs : List Nat} (w : Walk J n G Y) (f : Nat → V) (hn : n ≤ 16777216) (hG : ∀ H', Same H1 H' → G H')
    (hs : ∀ k x H H' (N : VK), k < n → Same H1 H → Y k H x H' → (∀ H4, Same H H4 → N (f k) H4) → g x (wipe σ vs) H' fun σ2 H2 => wipe σ2 vs = wipe σ vs ∧ te σ2 H2 N)
    (k : ∀ D H', H1 D = none → Same H1 H' → H' D = some (.lst ((List.range n).map f)) → Q (.ref D) H') : zLc J g tYes te vs σ H1 Q := fun D hD => by
  refine lc_it w (fun i H => Same H1 H ∧ H D = some (.lst ((List.range i).map f))) ⟨Same.new hD, upd_same⟩ (fun i H hi p => hG H p.1) (fun i x H H' hi p y => ?_) (fun H p => k D H hD p.1 p.2)
  refine hs i x H H' _ hi p.1 y (fun H4 s4 => ?_)
  refine ⟨_, s4 _ _ p.2, ?_, ?_, ?_⟩
  · rw [List.length_map, List.length_range, sizeLine_eq]
    omega
  · intro b o hb
    rw [upd_ne (ne_of_none hb hD)]
    exact s4 _ _ (p.1 _ _ hb)
  · rw [upd_same, List.range_succ, List.map_append]
    rfl
def zLcL (K : Frag) (g : TG) (tt : TT) (te : TE) (vs : List Nat) (σ : L2.St) (x : V) (H1 : Hp) (Q : VK) : Prop := ∃ a, x = .ref a ∧ (∃ xs, SqL K H1 a xs) ∧ zLc (Itl K a) g tt te vs σ H1 Q
theorem z_lcS {g : TG} {tt : TT} {t : TE} {vs : List Nat} (q : t σ H1 fun x H2 => zLcL K g tt te vs σ x H2 Q) : tLc (iList K t) g tt te vs σ H1 Q := q
/-- over a range -/
def zLcR (g : TG) (tt : TT) (te : TE) (vs : List Nat) (σ : L2.St) (xs : List V) (H1 : Hp) (Q : VK) : Prop := ∃ j : Int, xs = [.int j] ∧ -(2 ^ 62) ≤ j ∧ j < 2 ^ 62 ∧ zLc (Itr 0 j.toNat) g tt te vs σ H1 Q
theorem z_lcRS {g : TG} {tt : TT} {t : TA} {vs : List Nat} (q : t σ H1 fun xs H2 => zLcR g tt te vs σ xs H2 Q) : tLc (iRng1 t) g tt te vs σ H1 Q := q
/-- over two lists of numbers at once -/
def zLcZ (K : Frag) (g : TG) (tt : TT) (te : TE) (vs : List Nat) (σ : L2.St) (xs : List V) (H1 : Hp) (Q : VK) : Prop := ∃ a b ys zs, xs = [.ref a, .ref b] ∧ SqL K H1 a ys ∧ SqL K H1 b zs ∧ zLc (Itz K a b) g tt te vs σ H1 Q
theorem z_lcZS {g : TG} {tt : TT} {t : TA} {vs : List Nat} (q : t σ H1 fun xs H2 => zLcZ K g tt te vs σ xs H2 Q) : tLc (iZip K t) g tt te vs σ H1 Q := q
/-- a loop over a list of numbers: I by the turn -/
def zFoL (K : Frag) (g : TG) (tb : TS) (D : Ends) (σ : L2.St) (x : V) (H1 : Hp) : Prop := ∃ a, x = .ref a ∧ (∃ xs, SqL K H1 a xs) ∧ ∃ W : Nat → Nat → L2.St → Hp → Prop, (∃ m, W 0 m σ H1) ∧ ∀ k m σ H, W k m σ H →
    ((Itl K a).stop k H ∧ D.nx σ H) ∨ ((Itl K a).go k H ∧ ∃ N : L2.St → Hp → Prop, (∀ σ' H', N σ' H' → ∃ m', m' < m ∧ W (k + 1) m' σ' H') ∧ ∀ x H', (Itl K a).yld k H x H' → g x σ H' fun σ2 H2 => tb { D with nx := N, ct := N, bk := D.nx } σ2 H2)
theorem z_foS {g : TG} {tb : TS} {D : Ends} {t : TE} (q : t σ H1 fun x H2 => zFoL K g tb D σ x H2) : tFor (iList K t) g tb D σ H1 := q
theorem z_foV {g : TG} {tb : TS} {D : Ends} {a : Addr} {xs : List V} (h : H1 a = some (.lst xs)) (I : Nat → L2.St → Hp → Prop) (h0 : I 0 σ H1) (hl : ∀ k σ H, I k σ H → H a = some (.lst xs))
    (hs : ∀ k x σ H, xs[k]? = some x → I k σ H → g x σ H fun σ2 H2 => tb { D with nx := I (k + 1), ct := I (k + 1), bk := D.nx } σ2 H2) (hd : ∀ σ H, I xs.length σ H → D.nx σ H) : zFoL K g tb D σ (.ref a) H1 :=
  ⟨a, rfl, ⟨_, SqL.of h⟩, for_it (walk_list (K := K) (a := a) (xs := xs)) I h0 (fun k σ H _ p => SqL.of (hl k σ H p)) (fun k x σ H H' _ p y => by
    obtain ⟨rfl, hx⟩ := y
    exact hs k x σ H' hx p) hd⟩
/-- a loop over range(n): I by the turn -/
def zFoR (g : TG) (tb : TS) (D : Ends) (σ : L2.St) (vs : List V) (H1 : Hp) : Prop := ∃ j : Int, vs = [.int j] ∧ -(2 ^ 62) ≤ j ∧ j < 2 ^ 62 ∧ ∃ W : Nat → Nat → L2.St → Hp → Prop, (∃ m, W 0 m σ H1) ∧ ∀ k m σ H, W k m σ H →
    ((Itr 0 j.toNat).stop k H ∧ D.nx σ H) ∨ ((Itr 0 j.toNat).go k H ∧ ∃ N : L2.St → Hp → Prop, (∀ σ' H', N σ' H' → ∃ m', m' < m ∧ W (k + 1) m' σ' H') ∧ ∀ x H', (Itr 0 j.toNat).yld k H x H' → g x σ H' fun σ2 H2 => tb { D with nx := N, ct := N, bk := D.nx } σ2 H2)
theorem z_for1 {g : TG} {tb : TS} {D : Ends} (q : t σ H1 fun vs H2 => zFoR g tb D σ vs H2) : tFor (iRng1 t) g tb D σ H1 := q
theorem z_foR {g : TG} {tb : TS} {D : Ends} {n : Int} (h1 : -4611686018427387904 ≤ n) (h2 : n < 4611686018427387904) (I : Nat → L2.St → Hp → Prop) (h0 : I 0 σ H1)
    (hs : ∀ (k : Nat) σ H, k < n.toNat → I k σ H → g (.int k) σ H fun σ2 H2 => tb { D with nx := I (k + 1), ct := I (k + 1), bk := D.nx } σ2 H2) (hd : ∀ σ H, I n.toNat σ H → D.nx σ H) : zFoR g tb D σ [.int n] H1 :=
  ⟨n, rfl, by omega, by omega, for_it (walk_range (lo := 0) (n := n.toNat)) I h0 (fun _ _ _ _ _ => trivial) (fun k x σ H H' hk p y => by
    obtain ⟨rfl, rfl⟩ := y
    have e : (0 : Int) + (k : Int) = k := Int.zero_add _
    dsimp only
    rw [e]
    exact hs k σ H' hk p) hd⟩
end
section
variable {X : Cx} {K : Frag} {f : Value}
theorem callK (r : Frag → List V → Hp → VK → Prop) (h : X.K = K) (c : CallR X f (r X.K)) : CallR X f (r K) := by subst h; exact c
theorem slK (r : Frag → V → Option Int → Option Int → Hp → VK → Prop) (h : X.K = K) (c : SlR X (r X.K)) : SlR X (r K) := by subst h; exact c
theorem pi_listK {tg l : Expr} {tl : TE} (h : X.K = K) (hl : PE X l tl) : PI X tg l (iList K tl) := by subst h; exact pi_list hl
end
end Z
namespace Z
open PySem PySem.Spec PyProof.Rows L2
section
variable {K : Frag} {σ : L2.St} {H H' H1 : Hp} {Q : VK} {a p : Addr} {o : HO}
theorem z_isNI {i : Int} (q : Q (.bl false) H) : zIsN (.int i) .non H Q := z_isN (by simpa using q)
theorem z_isNN (q : Q (.bl true) H) : zIsN .non .non H Q := z_isN (by simpa using q)
theorem z_isNb (q : Q (.bl false) H) : zIsN (.ref a) .non H Q := z_isN (by simpa using q)
theorem z_notNI {i : Int} (q : Q (.bl true) H) : zNotN (.int i) .non H Q := z_notN (by simpa using q)
theorem z_notNN (q : Q (.bl false) H) : zNotN .non .non H Q := z_notN (by simpa using q)
theorem z_notNb (q : Q (.bl true) H) : zNotN (.ref a) .non H Q := z_notN (by simpa using q)
/-- o[i] = v -/
theorem z_gsub {to ti : TE} {t : TSet} {v : V} {D : L2.St → Hp → Prop} (q : to σ H fun o H1 => ti σ H1 fun i H2 => t o i v H2 fun H3 => D σ H3) : gSub to ti t v σ H D := q
/-- all stands but what lies at p -/
def But (p : Addr) (H H' : Hp) : Prop := ∀ a o, a ≠ p → H a = some o → H' a = some o
theorem But.of (e : Same H H') : But p H H' := fun a o _ h => e a o h
theorem But.trans (e : But p H H1) (f : But p H1 H') : But p H H' := fun a o ne h => f a o ne (e a o ne h)
theorem But.set : But p H (upd H p o) := fun a _ ne h => by rw [upd_ne ne]; exact h
/-- a list of numbers -/
def IsPool (H : Hp) (p : Addr) : Prop := ∃ ns : List Int, H p = some (.lst (ns.map V.int))
theorem IsPool.mono (e : Same H H') (h : IsPool H p) : IsPool H' p := h.elim fun ns q => ⟨ns, e _ _ q⟩
end
end Z
namespace Z
open PySem PySem.Spec PyProof.Rows L2
end Z
namespace Z
open PySem PySem.Spec PyProof.Rows L2
section
variable {K : Frag} {σ : L2.St} {H : Hp} {Q : VK} {p C dx : Addr} {fs : List (Str × V)} {i : Nat} {f : Str} {v : V} {D : L2.St → Hp → Prop}
def zSfl (K : Frag) (i : Nat) (f : Str) (E : Ends) (σ : L2.St) (y : V) (H1 : Hp) : Prop := tVar i σ H1 fun x H2 => ∃ a C dx fs, x = .ref a ∧ H2 a = some (.ins C dx fs) ∧ Cls K C ∧ NoAttr K C f ∧ fs.length < 1000 ∧ E.nx σ (upd H2 a (.ins C dx (putF f y fs)))
theorem z_sfl {tv : TE} {E : Ends} (q : tv σ H fun y H1 => zSfl K i f E σ y H1) : sFld K (tVar i) tv f E σ H := q
theorem z_sflp {E : Ends} (c : Cls K C) (n : NoAttr K C f) (hs : σ[i]? = some (some (.ref p))) (h : H p = some (.ins C dx fs)) (hl : fs.length < 1000) (q : E.nx σ (upd H p (.ins C dx (putF f v fs)))) : zSfl K i f E σ v H := ⟨_, hs, p, C, dx, fs, rfl, h, c, n, hl, q⟩
end
end Z
namespace Z
open PySem PySem.Spec PyProof.Rows L2
section
variable {K : Frag} {H H' : Hp} {Q : VK} {p a : Addr} {xs : List V}
theorem IsPool.of {ns : List Int} (h : H p = some (.lst (ns.map V.int))) : IsPool H p := ⟨ns, h⟩
end
end Z
namespace Z
open PySem PySem.Spec PyProof.Rows L2
theorem Same.none {H H' : Hp} {a : Addr} (s : Same H H') (h : H' a = Option.none) : H a = Option.none := by
  cases e : H a with
  | none => rfl
  | some o =>
    rw [s _ _ e] at h
    cases h
end Z
set_option maxHeartbeats 4000000
namespace Z
open PySem PySem.Spec PyProof.Rows L2
end Z
set_option maxHeartbeats 4000000
namespace Z
open PySem PySem.Spec PyProof.Rows L2
end Z
set_option maxHeartbeats 4000000
namespace Z
open PySem PySem.Spec PyProof.Rows L2
/-- a list (false) or a tuple (true) -/
def SqK (K : Frag) (k : Bool) (H : Hp) (a : Addr) (xs : List V) : Prop := match k with
  | true => SqT K H a xs
  | false => SqL K H a xs
def ItZ (K : Frag) (k1 k2 : Bool) (a b : Addr) (xs ys : List V) : It :=
  ⟨fun i H => SqK K k1 H a xs ∧ SqK K k2 H b ys ∧ i < min xs.length ys.length,
    fun i H v H' => ∃ T x y, v = .ref T ∧ H T = none ∧ H' = upd H T (.tup [x, y]) ∧ xs[i]? = some x ∧ ys[i]? = some y,
    fun i H => SqK K k1 H a xs ∧ SqK K k2 H b ys ∧ i = min xs.length ys.length⟩
def iZipM (K : Frag) (ta : TA) : TI := fun σ H R => ta σ H fun vs H1 => ∃ (k1 k2 : Bool) (a b : Addr) (xs ys : List V), vs = [.ref a, .ref b] ∧ SqK K k1 H1 a xs ∧ SqK K k2 H1 b ys ∧ R (ItZ K k1 k2 a b xs ys) H1
theorem vals2 {a b : Addr} {us : List Value} (r : Vals [V.ref a, V.ref b] us) : us = [Value.ref a, Value.ref b] := by
  cases r with
  | cons r1 r =>
    cases r with
    | cons r2 r =>
      cases r
      cases r1
      cases r2
      rfl
def ItE (K : Frag) (k : Bool) (a : Addr) (xs : List V) : It :=
  ⟨fun i H => SqK K k H a xs ∧ i < xs.length, fun i H v H' => ∃ T x, v = .ref T ∧ H T = none ∧ H' = upd H T (.tup [.int (i : Nat), x]) ∧ xs[i]? = some x, fun i H => SqK K k H a xs ∧ i = xs.length⟩
def iEnumM (K : Frag) (ta : TA) : TI := fun σ H R => ta σ H fun vs H1 => ∃ (k : Bool) (a : Addr) (xs : List V), vs = [.ref a] ∧ SqK K k H1 a xs ∧ R (ItE K k a xs) H1
end Z
set_option maxHeartbeats 4000000
namespace Z
open PySem PySem.Spec PyProof.Rows L2
/-- all but lists stands -/
def SameN (H H' : Hp) : Prop := ∀ a o, H a = some o → (∀ xs, o ≠ .lst xs) → H' a = some o
theorem SameN.of {H H' : Hp} (s : Same H H') : SameN H H' := fun a o h _ => s a o h
theorem SameN.trans {H H1 H2 : Hp} (s : SameN H H1) (t : SameN H1 H2) : SameN H H2 := fun a o h n => t a o (s a o h n) n
/-- a list of n items, each told by It -/
def Ls (H : Hp) (l : Addr) (n : Nat) (It : Hp → V → Nat → Prop) : Prop := ∃ xs, H l = some (.lst xs) ∧ xs.length = n ∧ ∀ k x, xs[k]? = some x → It H x k
def Mono (It : Hp → V → Nat → Prop) : Prop := ∀ H H' x k, SameN H H' → It H x k → It H' x k
theorem Ls.mono {H H' : Hp} {l : Addr} {n : Nat} {It : Hp → V → Nat → Prop} (m : Mono It) (s : Same H H') (h : Ls H l n It) : Ls H' l n It := by
  obtain ⟨xs, h1, h2, h3⟩ := h
  exact ⟨xs, s _ _ h1, h2, fun k x e => m _ _ _ _ (SameN.of s) (h3 k x e)⟩
theorem Ls.imp {H : Hp} {l : Addr} {n : Nat} {It Jt : Hp → V → Nat → Prop} (h : Ls H l n It) (i : ∀ x k, k < n → It H x k → Jt H x k) : Ls H l n Jt := by
  obtain ⟨xs, h1, h2, h3⟩ := h
  exact ⟨xs, h1, h2, fun k x e => i x k (by
    by_cases c : k < xs.length
    · omega
    · rw [List.getElem?_eq_none (by omega)] at e
      cases e) (h3 k x e)⟩
section
variable {K : Frag} {σ : L2.St} {H1 : Hp} {Q : VK} {te : TE} {i j : Nat}
/-- over any list, the values told -/
theorem z_lcVF {a : Addr} {xs : List V} (f : Nat → V) {vs : List Nat} (h : H1 a = some (.lst xs)) (hn : xs.length ≤ 16777216)
    (hs : ∀ k x H (N : VK), xs[k]? = some x → Same H1 H → (∀ H4, Same H H4 → N (f k) H4) → wipe ((wipe σ vs).set i (some x)) vs = wipe σ vs ∧ te ((wipe σ vs).set i (some x)) H N)
    (k : ∀ D H', H1 D = none → Same H1 H' → H' D = some (.lst ((List.range xs.length).map f)) → Q (.ref D) H') : zLcL K (gName i) tYes te vs σ (.ref a) H1 Q := by
  refine ⟨a, rfl, ⟨_, SqL.of h⟩, ?_⟩
  refine z_lcF (walk_list (K := K) (a := a) (xs := xs)) f hn (fun H' s => SqL.of (s _ _ h)) (fun k x H H' N hk s y c => ?_) k
  obtain ⟨rfl, hx⟩ := y
  exact hs k x H' N hx s c
/-- over enumerate -/
def zLcE (K : Frag) (g : TG) (tt : TT) (te : TE) (vs : List Nat) (σ : L2.St) (xs : List V) (H1 : Hp) (Q : VK) : Prop := ∃ (k : Bool) (a : Addr) (ys : List V), xs = [.ref a] ∧ SqK K k H1 a ys ∧ zLc (ItE K k a ys) g tt te vs σ H1 Q
theorem z_lcES {g : TG} {tt : TT} {t : TA} {vs : List Nat} (q : t σ H1 fun xs H2 => zLcE K g tt te vs σ xs H2 Q) : tLc (iEnumM K t) g tt te vs σ H1 Q := q
/-- over zip, lists and tuples -/
def zLcM (K : Frag) (g : TG) (tt : TT) (te : TE) (vs : List Nat) (σ : L2.St) (xs : List V) (H1 : Hp) (Q : VK) : Prop := ∃ (k1 k2 : Bool) (a b : Addr) (us ys : List V), xs = [.ref a, .ref b] ∧ SqK K k1 H1 a us ∧ SqK K k2 H1 b ys ∧ zLc (ItZ K k1 k2 a b us ys) g tt te vs σ H1 Q
theorem z_lcMS {g : TG} {tt : TT} {t : TA} {vs : List Nat} (q : t σ H1 fun xs H2 => zLcM K g tt te vs σ xs H2 Q) : tLc (iZipM K t) g tt te vs σ H1 Q := q
def zFoE (K : Frag) (g : TG) (tb : TS) (D : Ends) (σ : L2.St) (vs : List V) (H1 : Hp) : Prop := ∃ (k : Bool) (a : Addr) (xs : List V), vs = [.ref a] ∧ SqK K k H1 a xs ∧ ∃ W : Nat → Nat → L2.St → Hp → Prop, (∃ m, W 0 m σ H1) ∧ ∀ i m σ H, W i m σ H →
    ((ItE K k a xs).stop i H ∧ D.nx σ H) ∨ ((ItE K k a xs).go i H ∧ ∃ N : L2.St → Hp → Prop, (∀ σ' H', N σ' H' → ∃ m', m' < m ∧ W (i + 1) m' σ' H') ∧ ∀ x H', (ItE K k a xs).yld i H x H' → g x σ H' fun σ2 H2 => tb { D with nx := N, ct := N, bk := D.nx } σ2 H2)
theorem z_foES {g : TG} {tb : TS} {D : Ends} {t : TA} (q : t σ H1 fun vs H2 => zFoE K g tb D σ vs H2) : tFor (iEnumM K t) g tb D σ H1 := q
def zFo3 (g : TG) (tb : TS) (D : Ends) (σ : L2.St) (vs : List V) (H1 : Hp) : Prop := ∃ (a b c : Int) (n : Nat), vs = [.int a, .int b, .int c] ∧ RgC a b c n ∧ ∃ W : Nat → Nat → L2.St → Hp → Prop, (∃ m, W 0 m σ H1) ∧ ∀ k m σ H, W k m σ H →
    ((Itc a c n).stop k H ∧ D.nx σ H) ∨ ((Itc a c n).go k H ∧ ∃ N : L2.St → Hp → Prop, (∀ σ' H', N σ' H' → ∃ m', m' < m ∧ W (k + 1) m' σ' H') ∧ ∀ x H', (Itc a c n).yld k H x H' → g x σ H' fun σ2 H2 => tb { D with nx := N, ct := N, bk := D.nx } σ2 H2)
theorem z_fo3S {g : TG} {tb : TS} {D : Ends} {t : TA} (q : t σ H1 fun vs H2 => zFo3 g tb D σ vs H2) : tFor (iRng3 t) g tb D σ H1 := q
end
section
variable {K : Frag} {H : Hp} {Q : VK}
theorem Bits.mul {a b : Nat} {i j : Int} (ha : Bits a i) (hb : Bits b j) : Bits (a + b) (i * j) := by
  unfold Bits at *
  rw [Int.natAbs_mul, Nat.pow_add]
  exact Nat.mul_lt_mul'' ha hb
theorem Bits.neg {a : Nat} {i : Int} (ha : Bits a i) : Bits a (-i) := by
  unfold Bits at *
  omega
theorem Bits.up {a b : Nat} {i : Int} (h : Bits a i) (hb : a ≤ b) : Bits b i := bits_up h hb
theorem Bits.zero {a : Nat} : Bits a 0 := Nat.two_pow_pos a
theorem Bits.le {a : Nat} {i j : Int} (h : Bits a j) (hi : i.natAbs ≤ j.natAbs) : Bits a i := Nat.lt_of_le_of_lt hi h
theorem Bits.small {i : Int} {n : Nat} (h1 : -(1 <<< n : Nat) < i) (h2 : i < (1 <<< n : Nat)) : Bits n i := by
  unfold Bits
  rw [Nat.one_shiftLeft] at h1 h2
  omega
theorem Bits.div {a : Nat} {i j : Int} (h : Bits a i) : Bits a (i / j) := by
  refine h.le ?_
  have := Int.natAbs_ediv_le_natAbs i j
  exact this
theorem Bits.gcd {a : Nat} {i j : Int} (h : Bits a j) (h0 : j ≠ 0) : Bits a ((Int.gcd i j : Nat) : Int) := by
  refine h.le ?_
  rw [Int.natAbs_natCast]
  exact Nat.le_of_dvd (by omega) (Int.gcd_dvd_natAbs_right ..)
theorem Bits.mod {a : Nat} {i j : Int} (h : Bits a j) (h0 : 0 < j) : Bits a (i % j) := by
  refine h.le ?_
  have := Int.emod_nonneg i (show j ≠ 0 by omega)
  have := Int.emod_lt_of_pos i h0
  omega
theorem z_repB {i j : Int} {a b : Nat} (ha : Bits a i) (hb : Bits b j) (h0 : 0 < a) (h1 : 0 < b) (h : a + b ≤ 1000000) (q : Q (.int (i * j)) H) : zRep (.int i) (.int j) H Q := .inl (z_mulB ha hb h0 h1 h q)
end
end Z
set_option maxHeartbeats 4000000
namespace Z
open PySem PySem.Spec PyProof.Rows L2
def seenK2 (fb : List Chk) (fn : List He5.DefA) (K : Frag) : SeenZ := ((fb.all fun c => c K) && fn.all fun d => d.ok K, fn.map fun d => He5.fnA K (d.at_ K))
def dueK2 (fn : List He5.DefA) : SeenZ := (true, fn.map He5.DefA.val)
def Says2 (fb : List Chk) (fn : List He5.DefA) (K : Frag) : Prop := seenK2 fb fn K = dueK2 fn
section
variable {fb : List Chk} {fn : List He5.DefA} {K : Frag}
theorem Says2.fact (c : Says2 fb fn K) (i : Nat) {f : Chk} (h : fb[i]? = some f := by rfl) : f K = true := by
  have q := (He.ba (congrArg (fun z : SeenZ => z.1) c)).1
  exact List.all_eq_true.mp q f (List.mem_of_getElem? h)
theorem Says2.def_ (c : Says2 fb fn K) (i : Nat) {d : He5.DefA} (h : fn[i]? = some d := by rfl) : ∃ fd, FunD K d.name d.qual d.params d.body d.scope (d.dvs K) (d.kws K) (d.at_ K) fd := by
  have q := (He.ba (congrArg (fun z : SeenZ => z.1) c)).2
  have e : fn.map (fun d => He5.fnA K (d.at_ K)) = fn.map He5.DefA.val := congrArg (fun z : SeenZ => z.2) c
  have e2 := congrArg (fun l => l[i]?) e
  simp only [List.getElem?_map, h, Option.map_some] at e2
  exact He5.DefA.funD (Option.some.inj e2) (List.all_eq_true.mp q d (List.mem_of_getElem? h))
end
structure LwB (fb : List Chk) (fn : List He5.DefA) (K : Frag) (mg : Str → Option Value) : Prop where
  at_ : ∃ h : Heap, K.In h ∧ h.Ns mainGlobals mg
  c : Says2 fb fn K
/-- a class whose attributes are read by their names; a staticmethod of it -/
def cRead (x : Str) : Chk := fun K => PySem.W.readsIn K (He.ga K x) (.type "type") && He.eqO (PySem.W.specialIn K (.ref (He.ga K x)) "__getattribute__") (some (some (.builtin "type.__getattribute__")))
theorem cread_ok {K : Frag} {x : Str} (h : cRead x K = true) : ClX.CRead K (He.ga K x) (.type "type") := by
  obtain ⟨h1, h2⟩ := He.ba h
  exact ⟨h1, He.eqO_ok h2⟩
def cStat (x m : Str) : Chk := fun K => He5.wrapB K (He.ga K x) "staticmethod" "staticmethod.__get__" m
/-- C.m is a staticmethod: its record at p, its def at f -/
structure SMet (K : Frag) (C : Addr) (m : Str) (p f : Addr) : Prop where
  at_ : PySem.W.findCls K (.ref C) (.type "type") m = some (.get (.builtin "staticmethod.__get__") (.ref p) .none (.ref C))
  rc : ∃ rest, PySem.W.recIn K p "staticmethod" = some (.ref f :: rest)
theorem smet_ok {K : Frag} {x m : Str} (h : cStat x m K = true) : SMet K (He.ga K x) m (He.ma K (He.ga K x) m) (He5.wf K (He.ga K x) "staticmethod" m) := by
  obtain ⟨h1, h2⟩ := He5.wrapB_ok h
  exact ⟨h1, h2⟩
structure Sta (P : Program) (w : World) (K : Frag) (mg : Str → Option Value) (base : Heap) (k : Nat) (C : Addr) (m : Str) (sp : Sp) (dvs : List V) : Prop where
  ex : ∃ (p f : Addr) (fd : FuncData) (ps : List Str) (ds : List Value), ClX.CRead K C (.type "type") ∧ SMet K C m p f ∧ FnOk P w K mg base (L2N.CX P w) k f fd ps sp ∧ PySem.W.keepIn K (.ref f) = true ∧ Binds K fd ps ds ∧ Vals dvs ds
/-- C.m(..), m a staticmethod of C -/
def tStaW (C : Addr) (sp : Sp) (dvs : List V) (W : WX) (ta : TE) (t : TA) : TE := fun σ H Q => ta σ H fun x H1 => x = .ref C ∧ t σ H1 fun vs H2 => sp (vs ++ dvs) H2 Q (fun cls d H' => W cls d σ H')
section
variable {X : Cx} {k j : Nat} {C : Addr} {sp : Sp} {dvs : List V} {W : WX} {m : Str} {pos apos : Pos} {e o : Expr} {es : List Expr} {ta : TE} {t : TA}
theorem pe_sm {pl : Sem Bool} (c : Sta X.prog X.w X.K X.mg X.base k C m sp dvs) (hr : Room j X.A) (hk : k ≤ j) (tk : L2N.Takes X W) (ho : PE X o ta) (ha : PA X (e :: es) t)
    (hst : starEach (e :: es) X.env = (false, eval e X.env) :: starEach es X.env := by rfl) (hpl : (backTo pos (starEach es X.env)).any (·.1) = false := by rfl)
    (ht : eval (.Call (.Attribute o m apos) (e :: es) [] pos) X.env = (do
      let ov ← eval o X.env; standAt apos.atName
      let (f, first) ← holding [ov] (getMethod ov m pl); callWith pos f first (backTo pos (starEach (e :: es) X.env)) (backToKw pos (keywordEach [] X.env))) := by rfl) :
    PE X (.Call (.Attribute o m apos) (e :: es) [] pos) (tStaW C sp dvs W ta t) := by
  obtain ⟨p, f, fd, ps, ds, rd, sm, F, kp, b, d⟩ := c.ex
  obtain ⟨rest, hp⟩ := sm.rc
  refine ⟨fun pi s0 sl H0 Q0 J h0 => ?_⟩
  refine PySem.W.methodCall_KW (pl := pl) (thn (ho.run pi s0 sl H0 _ J h0) fun u s1 ⟨y, H1, J1, ry, ey, q⟩ => ?_) ht
  subst ey
  obtain rfl : u = Value.ref C := ry
  refine PySem.W.method_cls J1.kIn rd.ga (PySem.W.cls_bind J1.kIn rd.rd sm.at_ (wpAny_call (PySem.W.sm_get (s := { s1 with toks := s1.toks + 1 }) J1.kIn hp (PySem.W.handed_on rfl ?_))))
  have J2 : Inv X pi sl H1 { s1 with toks := s1.toks + 1 } := J1.tok _
  refine PySem.W.callWith_K (first := []) (h₀ := X.base) J.ok.mod.kin kp (thn (ha.run pos pi _ sl H1 _ J2 q) fun us s2 ⟨xs, H2, J3, r, q2⟩ => ⟨J3.kIn, ?_⟩) hst hpl
  exact run_fnSD (E := fun σ cls d H => W cls d σ H) F (hr.mono hk) b d (passW tk sl) J3 r q2
end
section
variable {K : Frag} {σ : L2.St} {H : Hp} {Q : VK} {ta : TE} {t : TA} {sp : Sp} {dvs : List V} {W : WX} {C : Addr}
def zSta (C : Addr) (x : V) (R : Prop) : Prop := x = .ref C ∧ R
theorem z_sta (q : ta σ H fun x H1 => zSta C x (t σ H1 fun vs H2 => sp (vs ++ dvs) H2 Q (fun cls d H' => W cls d σ H'))) : tStaW C sp dvs W ta t σ H Q := q
theorem z_sta1 {R : Prop} (q : R) : zSta C (.ref C) R := ⟨rfl, q⟩
end
end Z
set_option maxHeartbeats 4000000
namespace Z
open PySem PySem.Spec PyProof.Rows L2
theorem map_three {α β γ δ : Type} {o : Option α} {f : α → β} {g : α → γ} {h : α → δ} {a : β} {b : γ} {c : δ} (h1 : o.map f = some a) (h2 : o.map g = some b) (h3 : o.map h = some c) : o.map (fun x => (f x, g x, h x)) = some (a, b, c) := by
  cases o with
  | none => cases h1
  | some x =>
    cases h1
    cases h2
    cases h3
    rfl
end Z
set_option maxHeartbeats 4000000
namespace Z
open PySem PySem.Spec PyProof.Rows L2
end Z
set_option maxHeartbeats 4000000
namespace Z
open PySem PySem.Spec PyProof.Rows L2
end Z
set_option maxHeartbeats 4000000
namespace Z
open PySem PySem.Spec PyProof.Rows L2
end Z
set_option maxHeartbeats 4000000
namespace Z
open PySem PySem.Spec PyProof.Rows L2
/-- those that the mask does not hold, each once -/
def newB {α : Type} : List Addr → Nat → List Addr → (List Addr → Nat → α) → α
  | [], m, acc, k => k acc m
  | a :: r, m, acc, k => HandSHeadRun.frNat a fun a => match Nat.beq (Nat.mod (Nat.shiftRight m a) 2) 1 with
    | true => newB r m acc k
    | false => HandSHeadRun.frNat (Nat.lor m (Nat.shiftLeft 1 a)) fun m => newB r m (a :: acc) k
def asB (g : Addr → Option Obj) : Nat → List Addr → Nat → List Addr → List Addr
  | 0, _, _, acc => acc
  | n + 1, fr, m, acc => newB (fr.flatMap fun a => match g a with
    | some o => He.refsD o
    | none => []) m [] fun nw m => asB g n nw m (nw ++ acc)
def seenG3 (n : Nat) (fb : List Chk) (fn : List He5.DefA) (g : Addr → Option Obj) : SeenZ := seenK2 fb fn (He.frG g (asB g n [mainGlobals] (Nat.shiftLeft 1 mainGlobals) [cStatics, mainGlobals]))
def hookZ3 (n : Nat) (fb : List Chk) (fn : List He5.DefA) : PySem.W.Hook where
  α := SeenZ
  val := fun _ => dueK2 fn
  obs := fun st => seenG3 n fb fn st.heap.get?
  says := fun _ hp => ∃ K : Frag, K.In hp ∧ Says2 fb fn K
  keeps := fun _ _ _ ⟨K, hin, c⟩ kp => ⟨K, PySem.W.Frag.In.keeps hin kp, c⟩
  of := fun _ _ eq => ⟨_, He.frG_in, eq⟩
theorem seenG3_eq {n : Nat} {fb : List Chk} {fn : List He5.DefA} {g : Addr → Option Obj} {st : Shared} (h : ∀ a, g a = st.heap.get? a) : seenG3 n fb fn g = (hookZ3 n fb fn).obs st := by
  rw [show g = st.heap.get? from funext h] <;> rfl
theorem seen_both3 {α : Type} {o : Option α} {g : α → Addr → Option Obj} {n : Nat} {fb1 fb2 : List Chk} {fn1 fn2 : List He5.DefA} (h1 : o.map (fun x => seenG3 n fb1 fn1 (g x)) = some (dueK2 fn1)) (h2 : o.map (fun x => seenG3 n fb2 fn2 (g x)) = some (dueK2 fn2)) :
    o.map (fun x => seenG3 n (fb1 ++ fb2) (fn1 ++ fn2) (g x)) = some (dueK2 (fn1 ++ fn2)) := by
  cases o with
  | none => cases h1
  | some x =>
    have e1 : seenG3 n fb1 fn1 (g x) = dueK2 fn1 := Option.some.inj h1
    have e2 : seenG3 n fb2 fn2 (g x) = dueK2 fn2 := Option.some.inj h2
    show some (seenG3 n (fb1 ++ fb2) (fn1 ++ fn2) (g x)) = _
    unfold seenG3 seenK2 dueK2 at *
    have a1 := congrArg (fun z : SeenZ => z.1) e1
    have a2 := congrArg (fun z : SeenZ => z.1) e2
    have b1 := congrArg (fun z : SeenZ => z.2) e1
    have b2 := congrArg (fun z : SeenZ => z.2) e2
    dsimp only at a1 a2 b1 b2
    obtain ⟨c1, c2⟩ := He.ba a1
    obtain ⟨d1, d2⟩ := He.ba a2
    rw [List.all_append, List.all_append, List.map_append, List.map_append, c1, c2, d1, d2, b1, b2]
    rfl
end Z
set_option maxHeartbeats 4000000
namespace Z
open PySem PySem.Spec PyProof.Rows L2
section
variable {K : Frag} {σ : L2.St} {H1 : Hp} {Q : VK} {te : TE} {i j : Nat}
def Sq2 (H : Hp) (a : Addr) (xs : List V) : Prop := H a = some (.lst xs) ∨ H a = some (.tup xs)
theorem Sq2.mono {H H' : Hp} {a : Addr} {xs : List V} (s : Same H H') (h : Sq2 H a xs) : Sq2 H' a xs := h.imp (s _ _) (s _ _)
end
end Z
set_option maxHeartbeats 4000000
namespace Z
open PySem PySem.Spec PyProof.Rows L2
end Z
set_option maxHeartbeats 4000000
namespace Z
open PySem PySem.Spec PyProof.Rows L2
end Z
set_option maxHeartbeats 4000000
namespace Z
open PySem PySem.Spec PyProof.Rows L2
section
variable {X : Cx}
/-- x == y by the own ==, whatever it tells -/
def rOwnB (C : Addr) (sp : Sp) (E : XK) : R2 := fun x y H Q => ∃ a b dx dy fs gs, x = .ref a ∧ y = .ref b ∧ H a = some (.ins C dx fs) ∧ H b = some (.ins C dy gs) ∧ sp [.ref a, .ref b] H (fun v H' => (∃ q, v = .bl q) ∧ Q v H') E
theorem op_ownEqB {k j : Nat} {C : Addr} {sp : Sp} {E : XK} (c : Met X.prog X.w X.K X.mg X.base k C "__eq__" sp []) (hr : Room j X.A) (hk : k ≤ j) (hx : Passes (L2N.CX X.prog X.w) X E) : OpR X (compareOp .Eq) (rOwnB C sp E) := by
  intro pi s0 sl H0 y z v u Q0 J ry rz h0
  obtain ⟨a, b, dy, dz, fs, gs, rfl, rfl, ea, eb, q⟩ := h0
  obtain rfl : v = Value.ref a := ry
  obtain rfl : u = Value.ref b := rz
  obtain ⟨f, fd, ps, ds, hc, hm, F, bd, d⟩ := c.ex
  obtain ⟨mA, O, _⟩ := ins_get J.hok ea
  obtain ⟨od, I0, _⟩ := O.look
  obtain ⟨m0, fr⟩ := J.fr
  show wpAny (model X.prog X.w) X.A (richCompare .Eq (.ref a) (.ref b)) (EP X pi sl Q0) X.xe s0
  refine PySem.W.cmp_K (op := .Eq) (tb := .ref C) hr.units0 fr J.ok.mod.kin I0 (ref_cls J eb) (by simp [PySem.W.notFirst]) hm.at_ hm.fn ?_
  cases d
  refine wpAny_mono (run_fn (us := [.ref a, .ref b]) (vs := [.ref a, .ref b]) F (hr.mono hk) bd .nil hx J (.cons rfl (.cons rfl .nil)) q) (fun r s1 hq => ?_) fun _ _ z => z
  obtain ⟨v1, H1, J1, rv, ⟨q1, e1⟩, q2⟩ := hq
  subst e1
  obtain rfl : r = Value.bool q1 := rv
  exact ⟨.bl q1, H1, J1, rfl, q2⟩
theorem z_ownB {C : Addr} {sp : Sp} {E : XK} {a b dx dy : Addr} {fs gs : List (Str × V)} {H : Hp} {Q : VK} (ha : H a = some (.ins C dx fs)) (hb : H b = some (.ins C dy gs)) (q : sp [.ref a, .ref b] H (fun v H' => (∃ q, v = .bl q) ∧ Q v H') E) : rOwnB C sp E (.ref a) (.ref b) H Q := ⟨a, b, dx, dy, fs, gs, rfl, rfl, ha, hb, q⟩
end
end Z
set_option maxHeartbeats 4000000
namespace Z
open PySem PySem.Spec PyProof.Rows L2
section
variable {H : Hp} {Q : VK} {σ : L2.St}
theorem z_shrP {i j : Int} (c : 0 ≤ j) (q : Q (.int (i / 2 ^ j.toNat)) H) : rI (fun _ j => 0 ≤ j) (fun i j => .int (i / 2 ^ j.toNat)) (.int i) (.int j) H Q := ⟨i, j, rfl, rfl, c, q⟩
theorem z_tbits {to : TE} (q : to σ H fun x H1 => ∃ i, x = .int i ∧ Q (.int (Builtin.Int.intBits i : Nat)) H1) : tBits to σ H Q := q
theorem z_tbi {i : Int} {P : Int → Prop} (q : P i) : ∃ j, V.int i = .int j ∧ P j := ⟨i, rfl, q⟩
/-- for x in range(n - 1, -1, -1) -/
def zFoD (g : TG) (tb : TS) (D : Ends) (σ : L2.St) (vs : List V) (H1 : Hp) : Prop := ∃ (i j c : Int) (n : Nat), vs = [.int i, .int j, .int c] ∧ RgC i j c n ∧ ∃ W : Nat → Nat → L2.St → Hp → Prop, (∃ m, W 0 m σ H1) ∧ ∀ k m σ H, W k m σ H →
    ((Itc i c n).stop k H ∧ D.nx σ H) ∨ ((Itc i c n).go k H ∧ ∃ N : L2.St → Hp → Prop, (∀ σ' H', N σ' H' → ∃ m', m' < m ∧ W (k + 1) m' σ' H') ∧ ∀ x H', (Itc i c n).yld k H x H' → g x σ H' fun σ2 H2 => tb { D with nx := N, ct := N, bk := D.nx } σ2 H2)
theorem z_for3 {g : TG} {tb : TS} {D : Ends} {t : TA} (q : t σ H fun vs H1 => zFoD g tb D σ vs H1) : tFor (iRng3 t) g tb D σ H := q
theorem z_foD {g : TG} {tb : TS} {D : Ends} {n : Nat} (h : n ≤ 1000000000) (I : Nat → L2.St → Hp → Prop) (h0 : I 0 σ H)
    (hs : ∀ (k : Nat) σ H, k < n → I k σ H → g (.int ((n : Int) - 1 - k)) σ H fun σ2 H2 => tb { D with nx := I (k + 1), ct := I (k + 1), bk := D.nx } σ2 H2) (hd : ∀ σ H, I n σ H → D.nx σ H) : zFoD g tb D σ [.int ((n : Int) - 1), .int (-1), .int (-1)] H := by
  refine ⟨_, _, _, n, rfl, ?_, for_rangeC I h0 (fun k σ H hk p => ?_) hd⟩
  · have := RgC.neg (i := (n : Int) - 1) (j := -1) (by omega) (by omega) (by omega) (by omega)
    rwa [show ((n : Int) - 1 - -1).toNat = n by omega] at this
  · have := hs k σ H hk p
    rwa [show (n : Int) - 1 - k = (n : Int) - 1 + (k : Nat) * -1 by omega] at this
/-- while: an invariant with a number that falls -/
theorem z_while {c : TT} {tb : TS} {D : Ends} (I : Nat → L2.St → Hp → Prop) (m : Nat) (h0 : I m σ H)
    (hs : ∀ m σ H, I m σ H → c σ H fun b H1 => if b = true then ∃ N : L2.St → Hp → Prop, (∀ σ' H', N σ' H' → ∃ m', m' < m ∧ I m' σ' H') ∧ tb { D with nx := N, ct := N, bk := D.nx } σ H1 else D.nx σ H1) : tWhile c tb D σ H := ⟨I, ⟨m, h0⟩, hs⟩
end
end Z
set_option maxHeartbeats 4000000
namespace S00
open PySem PySem.Builtin PySem.Builtin.Str
open SX (S)
open TL (numL)
def asc (a : List Nat) : Prop := ∀ c, c ∈ a → c < 128
def isD (c : Nat) : Bool := decide (48 ≤ c) && decide (c ≤ 57)
def dig (a : List Nat) : Bool := !a.isEmpty && a.all isD
def rw1 (a : List Nat) : Option Nat := if dig a = true ∧ a.length ≤ 300 ∧ (a.head? = some 48 → a = [48]) then some (NumText.digitsVal a) else none
def bod (a : List Nat) : List Nat := if a.head? = some 45 then a.tail else a
def cut (a : List Nat) : List Nat × Option (List Nat) := (a.takeWhile (fun c => c != 47), match a.dropWhile (fun c => c != 47) with
  | [] => none
  | _ :: r => some r)
def lowV : Option (List Nat) → Option Nat
  | none => some 1
  | some r => rw1 r
def rf (a : List Nat) : Option (Int × Int) :=
  match rw1 (cut (bod a)).1, lowV (cut (bod a)).2 with
  | some t, some d => if Nat.gcd t d ≠ 1 ∨ ((cut (bod a)).2.isSome = true ∧ d < 2) then none else if a.head? = some 45 then (if t = 0 then none else some (-(t : Int), (d : Int))) else some ((t : Int), (d : Int))
  | _, _ => none
def num (z : Int) : List Nat := if z < 0 then 45 :: numL z.natAbs else numL z.natAbs
def txt (p q : Int) : List Nat := if q = 1 then num p else num p ++ 47 :: num q
theorem uniD : ∀ c, c < 128 → Unicode.isDigit c = isD c := by decide +kernel
theorem isdigit_S {a : List Nat} (h : asc a) : Txt.isdigit (S a) = dig a := by
  unfold Txt.isdigit dig
  rw [SX.S_len]
  have e1 : decide (a.length > 0) = !a.isEmpty := by cases a <;> simp
  have e2 : (S a).cps.all Unicode.isDigit = a.all isD := by
    rw [show (S a).cps.all Unicode.isDigit = a.all Unicode.isDigit by simp [S]]
    rw [Bool.eq_iff_iff, List.all_eq_true, List.all_eq_true]
    exact forall_congr' fun c => forall_congr' fun m => by rw [uniD c (h c m)]
  rw [e1, e2]
theorem sub1 (a : List Nat) (c : Nat) : subAt (S a) (S [c]) 0 = decide (a.head? = some c) := by
  unfold subAt
  cases a with
  | nil => simp [S, Str.length]
  | cons x r =>
    simp [S, Str.length]
    by_cases h : x = c <;> simp [h]
theorem starts_S (a : List Nat) (c : Nat) : Txt.startswith (S a) (S [c]) = decide (a.head? = some c) := by
  unfold Txt.startswith
  rw [sub1, SX.S_len, SX.S_len]
  cases a with
  | nil => simp
  | cons x r => simp
theorem removeprefix_S (a : List Nat) : Txt.removeprefix (S a) (S [45]) = S (bod a) := by
  unfold Txt.removeprefix bod
  rw [sub1]
  by_cases h : a.head? = some 45
  · rw [if_pos (by simpa using h), if_pos h, SX.S_len, SX.S_len]
    show (if ((a.length - [45].length == (S a).length) = true) then _ else _) = _
    rw [SX.S_len]
    cases a with
    | nil => simp at h
    | cons x r =>
      rw [if_neg (by simp)]
      exact TL.ext_tl (by rw [TL.tl_strSub]; simp [S, TL.tl])
  · rw [if_neg (by simpa using h), if_neg h] <;> rfl
theorem cut_hit {p r : List Nat} (h : 47 ∉ p) : cut (p ++ 47 :: r) = (p, some r) := by
  unfold cut
  have e1 : ∀ p : List Nat, 47 ∉ p → (p ++ 47 :: r).takeWhile (fun c => c != 47) = p ∧ (p ++ 47 :: r).dropWhile (fun c => c != 47) = 47 :: r := by
    intro p
    induction p with
    | nil => intro _; simp
    | cons x t ih =>
      intro h
      have hx : x ≠ 47 := fun e => h (by rw [e]; exact List.mem_cons_self)
      obtain ⟨a, b⟩ := ih (fun m => h (List.mem_cons_of_mem _ m))
      constructor
      · rw [List.cons_append, List.takeWhile_cons, if_pos (by simpa using hx), a]
      · rw [List.cons_append, List.dropWhile_cons, if_pos (by simpa using hx), b]
  obtain ⟨a, b⟩ := e1 p h
  rw [a, b]
theorem cut_miss {p : List Nat} (h : 47 ∉ p) : cut p = (p, none) := by
  unfold cut
  have e1 : ∀ p : List Nat, 47 ∉ p → p.takeWhile (fun c => c != 47) = p ∧ p.dropWhile (fun c => c != 47) = [] := by
    intro p
    induction p with
    | nil => intro _; simp
    | cons x t ih =>
      intro h
      have hx : x ≠ 47 := fun e => h (by rw [e]; exact List.mem_cons_self)
      obtain ⟨a, b⟩ := ih (fun m => h (List.mem_cons_of_mem _ m))
      constructor
      · rw [List.takeWhile_cons, if_pos (by simpa using hx), a]
      · rw [List.dropWhile_cons, if_pos (by simpa using hx), b]
  obtain ⟨a, b⟩ := e1 p h
  rw [a, b]
/-- every text has a slash or none -/
theorem two_ways (b : List Nat) : (47 ∉ b) ∨ ∃ p r, 47 ∉ p ∧ b = p ++ 47 :: r := by
  induction b with
  | nil => left; simp
  | cons x t ih =>
    by_cases e : x = 47
    · right
      exact ⟨[], t, by simp, by rw [e]; rfl⟩
    · rcases ih with h | ⟨p, r, h, e2⟩
      · left
        intro m
        rcases List.mem_cons.mp m with m | m
        · exact e m.symm
        · exact h m
      · right
        refine ⟨x :: p, r, ?_, by rw [e2]; rfl⟩
        intro m
        rcases List.mem_cons.mp m with m | m
        · exact e m.symm
        · exact h m
theorem part_S (b : List Nat) : Txt.partition (S b) (S [47]) = (match (cut b).2 with
    | some r => (S (cut b).1, S [47], S r)
    | none => (S b, S [], S [])) := by
  rcases two_ways b with h | ⟨p, r, h, e⟩
  · rw [cut_miss h, SX.partition_none (by simp) (TL.par_none1 h)]
  · subst e
    rw [cut_hit h]
    exact SX.partition_some (a := p ++ ([47] ++ r)) (p := p) (q := r) (by simp) (SX.par_head r h)
theorem asc_app {a b : List Nat} (h1 : asc a) (h2 : asc b) : asc (a ++ b) := fun c m => by
  rcases List.mem_append.mp m with m | m
  · exact h1 c m
  · exact h2 c m
theorem asc_cons {x : Nat} {b : List Nat} (h1 : x < 128) (h2 : asc b) : asc (x :: b) := fun c m => by
  rcases List.mem_cons.mp m with m | m
  · rw [m]; exact h1
  · exact h2 c m
theorem asc_num (n : Nat) : asc (numL n) := fun c m => by
  have := TL.numL_digits n c m
  omega
theorem asc_bod {a : List Nat} (h : asc a) : asc (bod a) := by
  unfold bod
  split
  · exact fun c m => h c (List.mem_of_mem_tail m)
  · exact h
theorem len_bod (a : List Nat) : (bod a).length ≤ a.length := by
  unfold bod
  split
  · rw [List.length_tail]; omega
  · exact Nat.le_refl _
theorem asc_cut {a : List Nat} (h : asc a) : asc (cut a).1 ∧ ∀ r, (cut a).2 = some r → asc r := by
  rcases two_ways a with h1 | ⟨p, r, h1, e⟩
  · rw [cut_miss h1]
    exact ⟨h, fun r e => by simp at e⟩
  · subst e
    rw [cut_hit h1]
    exact ⟨fun c m => h c (List.mem_append_left _ m), fun r2 e2 => by
      cases e2
      exact fun c m => h c (List.mem_append_right _ (List.mem_cons_of_mem _ m))⟩
theorem len_cut (a : List Nat) : (cut a).1.length ≤ a.length ∧ ∀ r, (cut a).2 = some r → r.length ≤ a.length := by
  rcases two_ways a with h1 | ⟨p, r, h1, e⟩
  · rw [cut_miss h1]
    exact ⟨Nat.le_refl _, fun r e => by simp at e⟩
  · subst e
    rw [cut_hit h1]
    refine ⟨by
      rw [List.length_append]
      show p.length ≤ _
      omega, fun r2 e2 => ?_⟩
    cases e2
    rw [List.length_append, List.length_cons]
    omega
theorem num_lead (n : Nat) : (numL n).head? = some 48 → numL n = [48] := by
  induction n using Nat.strongRecOn with
  | _ n ih =>
    by_cases h : n < 10
    · rw [TL.numL_lt h]
      intro e
      have e2 : 48 + n = 48 := by simpa using e
      rw [e2]
    · rw [TL.numL_step (by omega)]
      intro e
      have ne := TL.numL_ne (n / 10)
      have e2 : (numL (n / 10)).head? = some 48 := by
        cases h1 : numL (n / 10) with
        | nil => exact absurd h1 ne
        | cons x t =>
          rw [h1] at e
          simpa using e
      have e3 := ih (n / 10) (by omega) e2
      have e4 : numL 0 = [48] := TL.numL_lt (by decide)
      have := TL.numL_inj (e3.trans e4.symm)
      omega
theorem dig_num (n : Nat) : dig (numL n) = true := by
  unfold dig
  have h1 : (numL n).isEmpty = false := by
    cases h : numL n with
    | nil => exact absurd h (TL.numL_ne n)
    | cons x t => rfl
  rw [h1, Bool.not_false, Bool.true_and, List.all_eq_true]
  intro c m
  have := TL.numL_digits n c m
  unfold isD
  rw [decide_eq_true this.1, decide_eq_true this.2]
  rfl
theorem rw_num {n : Nat} (h : (numL n).length ≤ 300) : rw1 (numL n) = some n := by
  unfold rw1
  rw [if_pos ⟨dig_num n, h, num_lead n⟩, TL.numL_val]
theorem rw_long {a : List Nat} (h : 300 < a.length) : rw1 a = none := by
  unfold rw1
  rw [if_neg]
  intro ⟨_, h2, _⟩
  omega
theorem rw_num2 (n : Nat) : rw1 (numL n) = some n ∨ rw1 (numL n) = none := by
  by_cases h : (numL n).length ≤ 300
  · exact .inl (rw_num h)
  · exact .inr (rw_long (by omega))
theorem rw_bad {a : List Nat} {c : Nat} (m : c ∈ a) (h : isD c = false) : rw1 a = none := by
  unfold rw1
  rw [if_neg]
  intro ⟨h1, _⟩
  unfold dig at h1
  rw [Bool.and_eq_true, List.all_eq_true] at h1
  rw [h1.2 c m] at h
  cases h
theorem rw_nil : rw1 [] = none := by decide
theorem rw_lead {a : List Nat} (h : a ≠ []) : rw1 (48 :: a) = none := by
  unfold rw1
  rw [if_neg]
  intro ⟨_, _, h3⟩
  have e := h3 rfl
  cases a with
  | nil => exact h rfl
  | cons x t => simp at e
theorem rf_up {a : List Nat} (h : rw1 (cut (bod a)).1 = none) : rf a = none := by
  unfold rf
  rw [h]
theorem rf_lo {a : List Nat} (h : lowV (cut (bod a)).2 = none) : rf a = none := by
  unfold rf
  rw [h]
  cases rw1 (cut (bod a)).1 <;> rfl
theorem free47 (n : Nat) : 47 ∉ numL n := TL.numL_free (Or.inl (by decide))
theorem free45 (n : Nat) : (numL n).head? ≠ some 45 := by
  intro e
  have m : 45 ∈ numL n := List.mem_of_head? e
  have := TL.numL_digits n 45 m
  omega
theorem head_app {a b : List Nat} (h : a ≠ []) : (a ++ b).head? = a.head? := by
  cases a with
  | nil => exact absurd rfl h
  | cons x t => rfl
/-- the text of a number behind its sign -/
theorem bod_num (z : Int) (x : List Nat) : bod (num z ++ x) = numL z.natAbs ++ x ∧ ((num z ++ x).head? = some 45 ↔ z < 0) := by
  unfold num bod
  by_cases h : z < 0
  · rw [if_pos h]
    simp [h]
  · rw [if_neg h]
    have e : (numL z.natAbs ++ x).head? ≠ some 45 := by
      rw [head_app (TL.numL_ne _)]
      exact free45 _
    rw [if_neg e]
    exact ⟨rfl, fun q => absurd q e, fun q => absurd q h⟩
theorem num_nn {z : Int} (h : 0 ≤ z) : num z = numL z.natAbs := by
  unfold num
  rw [if_neg (by omega)]
theorem num_neg {z : Int} (h : 0 < z) : num (-z) = 45 :: num z := by
  unfold num
  rw [if_pos (by omega), if_neg (by omega), Int.natAbs_neg]
theorem asc_int (z : Int) : asc (num z) := by
  unfold num
  split
  · exact asc_cons (by decide) (asc_num _)
  · exact asc_num _
theorem num_ne (z : Int) : num z ≠ [] := by
  unfold num
  split
  · simp
  · exact TL.numL_ne _
theorem asc_txt (p q : Int) : asc (txt p q) := by
  unfold txt
  split
  · exact asc_int p
  · exact asc_app (asc_int p) (asc_cons (by decide) (asc_int q))
theorem rf_txt {p q : Int} (hq : 1 ≤ q) (g : Int.gcd p q = 1) (h1 : (numL p.natAbs).length ≤ 300) (h2 : (numL q.natAbs).length ≤ 300) : rf (txt p q) = some (p, q) := by
  have gn : Nat.gcd p.natAbs q.natAbs = 1 := g
  unfold txt
  by_cases e : q = 1
  · rw [if_pos e]
    have b := bod_num p []
    rw [List.append_nil, List.append_nil] at b
    unfold rf
    rw [b.1, cut_miss (free47 _)]
    show (match rw1 (numL p.natAbs), some 1 with | some t, some d => _ | _, _ => _) = _
    rw [rw_num h1]
    show (if Nat.gcd p.natAbs 1 ≠ 1 ∨ ((none : Option (List Nat)).isSome = true ∧ 1 < 2) then none else _) = _
    rw [if_neg (by simp)]
    subst e
    by_cases n : p < 0
    · rw [if_pos (b.2.mpr n), if_neg (by omega)]
      congr 2
      omega
    · rw [if_neg (fun z => n (b.2.mp z))]
      congr 2
      omega
  · rw [if_neg e]
    have b := bod_num p (47 :: num q)
    unfold rf
    rw [b.1, cut_hit (free47 _)]
    show (match rw1 (numL p.natAbs), rw1 (num q) with | some t, some d => _ | _, _ => _) = _
    rw [rw_num h1, num_nn (by omega : 0 ≤ q), rw_num h2]
    show (if Nat.gcd p.natAbs q.natAbs ≠ 1 ∨ ((some (numL q.natAbs) : Option (List Nat)).isSome = true ∧ q.natAbs < 2) then none else _) = _
    rw [if_neg (by
      intro c
      rcases c with c | ⟨_, c⟩
      · exact c gn
      · omega)]
    by_cases n : p < 0
    · rw [if_pos (by rw [← num_nn (by omega : 0 ≤ q)]; exact b.2.mpr n), if_neg (by omega)]
      congr 2 <;> omega
    · rw [if_neg (fun z => n (b.2.mp (by rw [num_nn (by omega : 0 ≤ q)]; exact z)))]
      congr 2 <;> omega
theorem rf_far {p q : Int} (hq : 1 ≤ q) (h : 300 < (numL p.natAbs).length ∨ 300 < (numL q.natAbs).length) : rf (txt p q) = none := by
  unfold txt
  by_cases e : q = 1
  · rw [if_pos e]
    have b := bod_num p []
    rw [List.append_nil, List.append_nil] at b
    refine rf_up ?_
    rw [b.1, cut_miss (free47 _)]
    refine rw_long ?_
    rcases h with h | h
    · exact h
    · subst e
      have : (numL (1 : Int).natAbs).length = 1 := by
        rw [TL.numL_lt (by decide)]
        rfl
      omega
  · rw [if_neg e]
    have b := bod_num p (47 :: num q)
    rcases h with h | h
    · refine rf_up ?_
      rw [b.1, cut_hit (free47 _)]
      exact rw_long h
    · refine rf_lo ?_
      rw [b.1, cut_hit (free47 _)]
      show rw1 (num q) = none
      rw [num_nn (by omega : 0 ≤ q)]
      exact rw_long h
theorem bad_first {x : Nat} {a : List Nat} (h1 : x ≠ 45) (h2 : x ≠ 47) (h3 : isD x = false) : rf (x :: a) = none := by
  refine rf_up ?_
  unfold bod
  rw [if_neg (by simpa using h1)]
  refine rw_bad (c := x) ?_ h3
  unfold cut
  rw [List.takeWhile_cons, if_pos (by simpa using h2)]
  exact List.mem_cons_self
theorem bad_minus (a : List Nat) : rf (45 :: 45 :: a) = none := by
  refine rf_up ?_
  have e : bod (45 :: 45 :: a) = 45 :: a := by
    unfold bod
    rw [if_pos (by rfl)]
    rfl
  rw [e]
  refine rw_bad (c := 45) ?_ rfl
  unfold cut
  rw [List.takeWhile_cons, if_pos (by decide)]
  exact List.mem_cons_self
theorem bad_slash (a : List Nat) : rf (47 :: a) = none := by
  refine rf_up ?_
  unfold bod
  rw [if_neg (by simp)]
  have : cut (47 :: a) = ([], some a) := cut_hit (p := []) (by simp)
  rw [this]
  exact rw_nil
theorem bad_zero (p q : Int) : rf (48 :: txt p q) = none := by
  have key : ∀ x : List Nat, rf (48 :: (num p ++ x)) = none := by
    intro x
    refine rf_up ?_
    unfold bod
    rw [if_neg (by simp)]
    have hd : ∃ c t, num p = c :: t ∧ c ≠ 47 := by
      cases h : num p with
      | nil => exact absurd h (num_ne p)
      | cons c t =>
        refine ⟨c, t, rfl, ?_⟩
        rintro rfl
        unfold num at h
        split at h
        · simp at h
        · exact free47 p.natAbs (by rw [h]; exact List.mem_cons_self)
    obtain ⟨c, t, e, hc⟩ := hd
    unfold cut
    rw [e, List.takeWhile_cons, if_pos (by decide)]
    refine rw_lead ?_
    rw [List.cons_append, List.takeWhile_cons, if_pos (by simpa using hc)]
    simp
  unfold txt
  split
  · have := key []
    rw [List.append_nil] at this
    exact this
  · exact key _
/-- signs behind the text -/
theorem bad_end {p q : Int} (hq : 1 ≤ q) {x : List Nat} (hx : 47 ∉ x) {c : Nat} (hc : c ∈ x) (hd : isD c = false) : rf (txt p q ++ x) = none := by
  unfold txt
  by_cases e : q = 1
  · rw [if_pos e]
    refine rf_up ?_
    rw [(bod_num p x).1, cut_miss (by
      intro m
      rcases List.mem_append.mp m with m | m
      · exact free47 _ m
      · exact hx m)]
    exact rw_bad (List.mem_append_right _ hc) hd
  · rw [if_neg e, List.append_assoc]
    refine rf_lo ?_
    rw [(bod_num p _).1, List.cons_append, cut_hit (free47 _)]
    exact rw_bad (c := c) (List.mem_append_right _ hc) hd
/-- a second slash, or nothing behind the first one -/
theorem bad_sl {p q : Int} (hq : 1 ≤ q) : rf (txt p q ++ [47]) = none := by
  unfold txt
  by_cases e : q = 1
  · rw [if_pos e]
    refine rf_lo ?_
    rw [(bod_num p _).1, cut_hit (free47 _)]
    exact rw_nil
  · rw [if_neg e, List.append_assoc]
    refine rf_lo ?_
    rw [(bod_num p _).1, List.cons_append, cut_hit (free47 _)]
    exact rw_bad (c := 47) (List.mem_append_right _ List.mem_cons_self) rfl
theorem low_small {p : Int} {r : List Nat} {d : Nat} (h : rw1 r = some d) (hd : d < 2) : rf (num p ++ 47 :: r) = none := by
  unfold rf
  rw [(bod_num p _).1, cut_hit (free47 _)]
  show (match rw1 (numL p.natAbs), rw1 r with | some t, some d => _ | _, _ => _) = _
  rw [h]
  cases rw1 (numL p.natAbs) with
  | none => rfl
  | some t =>
    show (if Nat.gcd t d ≠ 1 ∨ ((some r : Option (List Nat)).isSome = true ∧ d < 2) then none else _) = _
    rw [if_pos (Or.inr ⟨rfl, hd⟩)]
theorem bad_one {p q : Int} (hq : 1 ≤ q) : rf (txt p q ++ [47, 49]) = none := by
  unfold txt
  by_cases e : q = 1
  · rw [if_pos e]
    exact low_small (d := 1) (by decide) (by decide)
  · rw [if_neg e, List.append_assoc]
    refine rf_lo ?_
    rw [(bod_num p _).1, List.cons_append, cut_hit (free47 _)]
    exact rw_bad (c := 47) (List.mem_append_right _ List.mem_cons_self) rfl
theorem bad_low0 (p : Int) : rf (num p ++ [47, 48]) = none := low_small (d := 0) (by decide) (by decide)
theorem bad_low {p : Int} {r : List Nat} (h : rw1 r = none) : rf (num p ++ 47 :: r) = none := by
  refine rf_lo ?_
  rw [(bod_num p _).1, cut_hit (free47 _)]
  exact h
theorem bad_low1 {p : Int} {x : Nat} {r : List Nat} (h : isD x = false) : rf (num p ++ 47 :: x :: r) = none := bad_low (rw_bad List.mem_cons_self h)
theorem bad_lowz (p q : Int) : rf (num p ++ 47 :: 48 :: num q) = none := bad_low (rw_lead (num_ne q))
theorem bad_mid (p : Int) (x : List Nat) : rf (num p ++ 32 :: 47 :: x) = none := by
  refine rf_up ?_
  have e : num p ++ 32 :: 47 :: x = num p ++ ([32] ++ 47 :: x) := rfl
  rw [e, (bod_num p _).1, ← List.append_assoc, cut_hit (by
    intro m
    rcases List.mem_append.mp m with m | m
    · exact free47 _ m
    · simp at m)]
  exact rw_bad (c := 32) (List.mem_append_right _ List.mem_cons_self) rfl
theorem bad_two (p q : Int) (hq : 1 ≤ q) : rf (num (2 * p) ++ 47 :: num (2 * q)) = none := by
  unfold rf
  rw [(bod_num _ _).1, cut_hit (free47 _)]
  show (match rw1 (numL (2 * p).natAbs), rw1 (num (2 * q)) with | some t, some d => _ | _, _ => _) = _
  rw [num_nn (by omega : 0 ≤ 2 * q)]
  rcases rw_num2 (2 * p).natAbs with h | h
  · rcases rw_num2 (2 * q).natAbs with h2 | h2
    · rw [h, h2]
      show (if Nat.gcd _ _ ≠ 1 ∨ _ then none else _) = _
      rw [if_pos]
      left
      intro g
      have d : 2 ∣ Nat.gcd (2 * p).natAbs (2 * q).natAbs := Nat.dvd_gcd ⟨p.natAbs, by omega⟩ ⟨q.natAbs, by omega⟩
      rw [g] at d
      have := Nat.le_of_dvd (by decide) d
      omega
    · rw [h, h2]
  · rw [h]
theorem bad_seven {n : Nat} (h : 300 < n) : rf (List.replicate n 55) = none := by
  refine rf_up ?_
  have e : bod (List.replicate n 55) = List.replicate n 55 := by
    unfold bod
    rw [if_neg]
    intro e
    have m := List.mem_of_head? e
    have := List.eq_of_mem_replicate m
    omega
  rw [e, cut_miss (by
    intro m
    have := List.eq_of_mem_replicate m
    omega)]
  exact rw_long (by rw [List.length_replicate]; exact h)
theorem num_ten (k : Nat) : numL (10 ^ k) = 49 :: List.replicate k 48 := by
  induction k with
  | zero => exact TL.numL_lt (by decide)
  | succ k ih =>
    have h : 10 ≤ 10 ^ (k + 1) := by
      rw [Nat.pow_succ]
      have := Nat.pow_pos (n := k) (show 0 < 10 by decide)
      omega
    have e1 : 10 ^ (k + 1) / 10 = 10 ^ k := by
      rw [Nat.pow_succ, Nat.mul_div_cancel _ (by decide)]
    have e2 : 10 ^ (k + 1) % 10 = 0 := by
      rw [Nat.pow_succ, Nat.mul_mod_left]
    rw [TL.numL_step h, e1, e2, ih, List.replicate_succ']
    rfl
theorem len_ten (k : Nat) : (numL (10 ^ k)).length = k + 1 := by
  rw [num_ten]
  simp
theorem num_int (z : Int) : Str.ofString (toString z) = S (num z) := by
  unfold num
  by_cases h : z < 0
  · rw [if_pos h]
    obtain ⟨n, hn⟩ : ∃ n : Nat, z = -((n + 1 : Nat) : Int) := ⟨z.natAbs - 1, by omega⟩
    subst hn
    have e : toString (-((n + 1 : Nat) : Int)) = "-" ++ toString ((n + 1 : Nat) : Int) := rfl
    rw [e]
    refine TL.ext_tl ?_
    rw [TL.tl_ofString, String.toList_append, List.map_append, ← TL.tl_ofString (toString ((n + 1 : Nat) : Int)), TL.tl_num]
    have e2 : (-((n + 1 : Nat) : Int)).natAbs = n + 1 := by omega
    rw [e2]
    rfl
  · rw [if_neg h]
    obtain ⟨n, hn⟩ : ∃ n : Nat, z = (n : Int) := ⟨z.natAbs, by omega⟩
    subst hn
    rw [SX.num_S, Int.natAbs_natCast]
theorem len_num {z : Int} {k : Nat} (hk : 0 < k) (h : z.natAbs < 10 ^ k) : (num z).length ≤ k + 1 := by
  have := TL.numL_len hk h
  unfold num
  split
  · rw [List.length_cons]
    omega
  · omega
end S00
set_option maxHeartbeats 4000000
namespace Z
open PySem PySem.Spec PyProof.Rows L2
open SX (S)
section
variable {K : Frag}
def cDig : Chk := fun K => PySem.W.nsOkIn K cStatics && (match PySem.W.nsIn K cStatics "sys.int_max_str_digits" with
  | some none => true
  | _ => false)
def Dig (K : Frag) : Prop := PySem.W.nsOkIn K cStatics = true ∧ PySem.W.nsIn K cStatics "sys.int_max_str_digits" = some none
theorem dig_ok (h : cDig K = true) : Dig K := by
  unfold cDig at h
  obtain ⟨h1, h2⟩ := He.ba h
  refine ⟨h1, ?_⟩
  split at h2
  · assumption
  · cases h2
theorem Dig.no {h : Heap} (d : Dig K) (x : K.In h) : h.NoDigits := ⟨h.nsMap cStatics, .of_isNs (PySem.W.isNs_of_in x d.1), PySem.W.nsMap_none_of_in x d.1 d.2⟩
end
section
variable {X : Cx} {K : Frag}
def rAddS : R2 := fun x y H Q => ∃ i j, x = .str i ∧ y = .str j ∧ i.length + j.length ≤ sizeLine ∧ Q (.str (i ++ j)) H
def zCat3 : R2 := rOr zCat rAddS
theorem o_cat3 : OpR X (binaryOp .Add) zCat3 := op_or2 o_cat op_add_str
/-- a text, n times -/
def rMulS : R2 := fun x y H Q => ∃ (a : List Nat) (n : Int), x = .str (S a) ∧ y = .int n ∧ 2 ≤ n ∧ n ≤ 30000 ∧ a ≠ [] ∧ a.length ≤ 100 ∧ Q (.str (S (List.replicate n.toNat a).flatten)) H
theorem rep_S (a : List Nat) (n : Nat) : (⟨(List.replicate n (S a).cps).foldl (· ++ ·) #[]⟩ : Str) = S (List.replicate n a).flatten := by
  have key : ∀ (n : Nat) (acc : Array Nat), (List.replicate n (S a).cps).foldl (· ++ ·) acc = acc ++ (List.replicate n a).flatten.toArray := by
    intro n
    induction n with
    | zero => intro acc; simp
    | succ n ih =>
      intro acc
      rw [List.replicate_succ, List.foldl_cons, ih, List.replicate_succ, List.flatten_cons]
      simp [S]
  rw [key]
  simp [S]
theorem op_mul_S : OpR X (binaryOp .Mult) rMulS := by
  intro pins s σ H x y v u Q I rx ry h
  obtain ⟨a, n, rfl, rfl, h2, h3, ha, hl, q⟩ := h
  obtain ⟨t, rfl⟩ := rx
  obtain ⟨t', rfl⟩ := ry
  have la : 0 < a.length := by
    cases a with
    | nil => exact absurd rfl ha
    | cons x r => simp
  have lS : (S a).length = a.length := SX.S_len a
  have hm : a.length * n.toNat ≤ 3000000 := by
    have h4 : a.length * n.toNat ≤ 100 * 30000 := Nat.mul_le_mul hl (by omega)
    omega
  refine PySem.P.mul_str ?_ (fun _ _ => ?_) (fun _ _ => ?_) ?_
  · rw [Bool.or_eq_false_iff]
    constructor
    · exact decide_eq_false (by omega)
    · exact decide_eq_false (by omega)
  · rw [lS]
    have h5 : (100 : Int) ≤ (2 ^ 63 - 1) / n := by
      rw [Int.le_ediv_iff_mul_le (by omega)]
      omega
    omega
  · rw [lS]
    have : ¬ a.length * n.toNat > 2 ^ 24 := by omega
    simpa [Builtin.Str.tooLong, sizeLine] using this
  · rw [if_neg (by omega), if_neg (by
      rw [lS, Bool.or_eq_true]
      intro c
      rcases c with c | c
      · have := beq_iff_eq.mp c
        omega
      · have := beq_iff_eq.mp c
        omega)]
    rw [rep_S]
    refine ⟨?_, ⟨.str _, H, I.tok _, ⟨_, rfl⟩, q⟩⟩
    rw [SX.S_len, sizeLine_eq]
    simp
    have : n.toNat * a.length = a.length * n.toNat := Nat.mul_comm _ _
    omega
def zRep2 : R2 := rOr zRep rMulS
theorem o_rep2 : OpR X (binaryOp .Mult) zRep2 := op_or2 o_rep op_mul_S
/-- str of a number of any size that is let -/
def rStrB : List V → Hp → VK → Prop := fun xs H Q => ∃ i, xs = [.int i] ∧ i.natAbs < 10 ^ 4300 ∧ Q (.str (S (S00.num i))) H
theorem call_strB (hK : X.K = K) (hc : X.calm = true) (d : Dig K) : CallR X (.type "str") rStrB := by
  subst hK
  intro pins s σ H xs us Q I r h
  obtain ⟨i, rfl, hz, q⟩ := h
  obtain ⟨u, rfl, t, rfl⟩ := vals1 r
  exact str_of_int_or (I.ok.hd hc) (d.no I.kIn) (fun _ => ⟨.str _, H, I.tok _, ⟨_, by rw [S00.num_int]⟩, q⟩) (fun hge => absurd hz (Nat.not_lt.mpr hge))
/-- int of a number, a truth or a text -/
def rIntS : List V → Hp → VK → Prop := fun xs H Q => ∃ a n, xs = [.str a] ∧ PySem.intText? a = some n ∧ a.length ≤ 640 ∧ Q (.int n) H
def rInt2 : List V → Hp → VK → Prop := fun xs H Q => rInt1 xs H Q ∨ rIntS xs H Q
theorem o_int2 : CallR X (.type "int") rInt2 := CallR.or o_int1 call_int_str
/-- a number within an f-string -/
def tFmtB (te : TE) : TE := fun σ H Q => te σ H fun x H1 => ∃ i : Int, x = .int i ∧ i.natAbs < 10 ^ 4300 ∧ Q (.str (S (S00.num i))) H1
theorem pe_fmtB {e : Expr} {te : TE} {pos : Pos} (hK : X.K = K) (hc : X.calm = true) (d : Dig K) (he : PE X e te) : PE X (.FormattedValue e (-1) none pos) (tFmtB te) := by
  subst hK
  refine ⟨fun pins s σ H Q I h => ?_⟩
  refine wpAny_FormattedValue_plain (thn (he.run pins s σ H _ I h) fun v s1 hv => ?_)
  obtain ⟨x, H1, I1, r1, i, rfl, hz, q⟩ := hv
  obtain ⟨t, rfl⟩ := r1
  exact PyProof.Rows.formatField_int (I1.ok.hd hc) (d.no I1.kIn) (fun _ => ⟨.str (S (S00.num i)), H1, I1.tok _, ⟨_, by rw [S00.num_int]⟩, q⟩) (fun hge => absurd hz (Nat.not_lt.mpr hge))
/-- abs of an own class -/
def rAbsO (C : Addr) (sp : Sp) (E : XK) : List V → Hp → VK → Prop := fun xs H Q => ∃ x, xs = [x] ∧ rOwn1 C sp E x H Q
theorem call_absO {k j : Nat} {C : Addr} {sp : Sp} (c : Met X.prog X.w X.K X.mg X.base k C "__abs__" sp []) (hr : Room j X.A) (hk : k + 1 ≤ j) {E : XK} (hx : Passes (L2N.CX X.prog X.w) X E) : CallR X (.builtin "abs") (rAbsO C sp E) := by
  intro pi s0 sl H0 xs us Q0 J r h0
  obtain ⟨y, rfl, a, dy, fs, rfl, ea, q⟩ := h0
  obtain ⟨u, rfl, rfl⟩ := vals1 r
  obtain ⟨f, fd, ps, ds, hc, hm, F, b, d⟩ := c.ex
  cases d
  obtain ⟨mA, O, _⟩ := ins_get J.hok ea
  obtain ⟨od, I0, _⟩ := O.look
  refine PySem.Calls.call_function_entry PyProof.Rows.kind_abs PyProof.Rows.plain_abs PyProof.Rows.entry_abs (PyProof.Rows.args_abs _) ?_
  unfold Builtin.«abs»
  refine wpAny_bind (m := oneArg "abs" _) (wpAny_pure ?_)
  refine wpAny_bind (m := callSpecial? (.ref a) (Str.ofString "__abs__")) (PySem.W.special_fn J.kIn I0 hm.at_ (beq_iff_eq.mp hm.fn) ?_)
  have hl : [Value.ref a].length = ps.length := F.len _ _ _ _ q
  have hb := b s0 [.ref a] J.kIn (by simpa using hl)
  have hr2 : Room k X.A.in1 := Room.in1 (hr.mono hk)
  refine wpAny_call (codeAny_mono (F.run X.A.in1 X.stack s0 H0 ⟨[.ref a], []⟩ [.ref a] [.ref a] Q0 E hr2 J.env0.in1 (by simpa using hb) (.cons rfl .nil) q) fun r1 s1 hq => ?_)
  cases r1 with
  | error e => exact hx pi sl H0 s0 e s1 J hq
  | ok fl =>
    cases fl with
    | ret u =>
      have z := J.after hq
      exact wpAny_pure ⟨_, rfl, z⟩
    | next => exact False.elim hq
    | brk => exact False.elim hq
    | cont => exact False.elim hq
def rAbs3 (C : Addr) (sp : Sp) (E : XK) : List V → Hp → VK → Prop := fun xs H Q => rAbs1 xs H Q ∨ rAbsO C sp E xs H Q
theorem o_abs3 {k j : Nat} {C : Addr} {sp : Sp} (c : Met X.prog X.w X.K X.mg X.base k C "__abs__" sp []) (hr : Room j X.A) (hk : k + 1 ≤ j) {E : XK} (hx : Passes (L2N.CX X.prog X.w) X E) : CallR X (.builtin "abs") (rAbs3 C sp E) := CallR.or o_abs (call_absO c hr hk hx)
end
section
variable {K : Frag} {σ : L2.St} {H : Hp} {Q : VK} {a b : List Nat}
theorem z_cLit {z : Str} {Q : VK} (e : z = S a) (q : Q (.str (S a)) H) : tC (.str z) σ H Q := by subst e; exact q
theorem z_c3I {i j : Int} (q : Q (.int (i + j)) H) : zCat3 (.int i) (.int j) H Q := .inl (z_catI q)
theorem z_c3S (hl : a.length + b.length ≤ 1000000) (q : Q (.str (S (a ++ b))) H) : zCat3 (.str (S a)) (.str (S b)) H Q := .inr ⟨_, _, rfl, rfl, by rw [SX.S_len, SX.S_len, sizeLine_eq]; omega, by rw [SX.S_cat]; exact q⟩
theorem z_c3L {x y : Addr} {xs ys : List V} (h1 : H x = some (.lst xs)) (h2 : H y = some (.lst ys)) (hn : xs.length + ys.length ≤ 16777216) (k : ∀ p H', H p = none → Same H H' → H' p = some (.lst (xs ++ ys)) → Q (.ref p) H') : zCat3 (.ref x) (.ref y) H Q := .inl (z_cat h1 h2 hn k)
theorem z_r2S {n : Int} (h2 : 2 ≤ n) (h3 : n ≤ 30000) (c : Nat) (q : Q (.str (S (List.replicate n.toNat c))) H) : zRep2 (.str (S [c])) (.int n) H Q := by
  refine .inr ⟨[c], n, rfl, rfl, h2, h3, by simp, by simp, ?_⟩
  have e : (List.replicate n.toNat [c]).flatten = List.replicate n.toNat c := by
    induction n.toNat with
    | zero => rfl
    | succ k ih => rw [List.replicate_succ, List.flatten_cons, ih, List.replicate_succ]; rfl
  rw [e]
  exact q
theorem z_strB {i : Int} (h : i.natAbs < 10 ^ 4300) (q : Q (.str (S (S00.num i))) H) : rStrB [.int i] H Q := ⟨i, rfl, h, q⟩
theorem z_i2S (h : S00.dig a = true) (hl : a.length ≤ 640) (q : Q (.int ((NumText.digitsVal a : Nat) : Int)) H) : rInt2 [.str (S a)] H Q := by
  unfold S00.dig at h
  rw [Bool.and_eq_true] at h
  refine .inr ⟨S a, _, rfl, SX.int_S (by exact h.2) (by
    rintro rfl
    exact absurd h.1 (by decide)) (by omega), by rw [SX.S_len]; exact hl, q⟩
theorem z_fmB {te : TE} (q : te σ H fun x H1 => ∃ i : Int, x = .int i ∧ i.natAbs < 10 ^ 4300 ∧ Q (.str (S (S00.num i))) H1) : tFmtB te σ H Q := q
theorem z_jsN {acc : Str} {R : Str → Hp → Prop} (q : R acc H) : tJs [] acc σ H R := q
theorem z_jsC {t : TE} {ts : List TE} {R : Str → Hp → Prop} {acc : List Nat} (q : t σ H fun x H1 => ∃ y : Str, x = .str y ∧ (S acc ++ y).length ≤ sizeLine ∧ tJs ts (S acc ++ y) σ H1 R) : tJs (t :: ts) (S acc) σ H R := q
theorem z_jsX {ts : List TE} {R : Str → Hp → Prop} {acc : List Nat} (hl : acc.length + a.length ≤ 1000000) (q : tJs ts (S (acc ++ a)) σ H R) : ∃ y : Str, V.str (S a) = .str y ∧ (S acc ++ y).length ≤ sizeLine ∧ tJs ts (S acc ++ y) σ H R := ⟨S a, rfl, by rw [SX.S_cat, SX.S_len, sizeLine_eq, List.length_append]; omega, by rw [SX.S_cat]; exact q⟩
theorem z_eqS (q : Q (.bl (decide (a = b))) H) : rEq (.str (S a)) (.str (S b)) H Q := ⟨rfl, by
  have e : decide (V.str (S a) = V.str (S b)) = decide (a = b) := by
    rw [Bool.eq_iff_iff]
    simp only [decide_eq_true_eq, V.str.injEq]
    exact ⟨SX.S_inj, fun e => by rw [e]⟩
  rw [e]; exact q⟩
theorem z_neS (q : Q (.bl (!decide (a = b))) H) : rNe (.str (S a)) (.str (S b)) H Q := ⟨rfl, by
  have e : decide (V.str (S a) = V.str (S b)) = decide (a = b) := by
    rw [Bool.eq_iff_iff]
    simp only [decide_eq_true_eq, V.str.injEq]
    exact ⟨SX.S_inj, fun e => by rw [e]⟩
  rw [e]; exact q⟩
theorem z_lenSt (hl : a.length ≤ 1000000) (q : Q (.int (a.length : Int)) H) : rLen1 K [.str (S a)] H Q := ⟨.str (S a), a.length, rfl, ⟨by rw [SX.S_len, sizeLine_eq]; omega, (SX.S_len a).symm⟩, q⟩
theorem z_a3O {C : Addr} {sp : Sp} {E : XK} {x : V} (q : rOwn1 C sp E x H Q) : rAbs3 C sp E [x] H Q := .inr ⟨x, rfl, q⟩
theorem z_tm0 {r : V → List V → Hp → VK → Prop} {to : TE} (q : to σ H fun x H1 => (∃ a, x = .str a) ∧ r x [] H1 Q) : tM0 r to σ H Q := q
theorem z_tm1 {r : V → List V → Hp → VK → Prop} {to te : TE} (q : to σ H fun x H1 => (∃ a, x = .str a) ∧ te σ H1 fun y H2 => r x [y] H2 Q) : tM1 r to te σ H Q := q
theorem z_isS {x : Str} {P : Prop} (q : P) : (∃ a, V.str x = .str a) ∧ P := ⟨⟨x, rfl⟩, q⟩
theorem z_isiS {x : Str} {n : String} {b : Bool} (hk : kitB "str" n = some b) (q : Q (.bl b) H) : rIsi K [.str x, .ty n] H Q := z_isi (.ty n) (.base (.str x)) (kit_ty hk) q
end
section
variable {X : Cx} {K : Frag}
/-- x == y by the own == of x, y of another class -/
def rOwnV (K : Frag) (C : Addr) (sp : Sp) (E : XK) : R2 := fun x y H Q => ∃ a dx fs t, x = .ref a ∧ H a = some (.ins C dx fs) ∧ TyX K H y t ∧ PySem.W.notFirst K C t = true ∧ sp [.ref a, y] H (fun v H' => (∃ q, v = .bl q) ∧ Q v H') E
theorem op_ownEqV (hK : X.K = K) {k j : Nat} {C : Addr} {sp : Sp} {E : XK} (c : Met X.prog X.w X.K X.mg X.base k C "__eq__" sp []) (hr : Room j X.A) (hk : k ≤ j) (hx : Passes (L2N.CX X.prog X.w) X E) : OpR X (compareOp .Eq) (rOwnV K C sp E) := by
  subst hK
  intro pi s0 sl H0 y z v u Q0 J ry rz h0
  obtain ⟨a, dy, fs, t, rfl, ea, ty, nf, q⟩ := h0
  obtain rfl : v = Value.ref a := ry
  obtain ⟨f, fd, ps, ds, hc, hm, F, bd, d⟩ := c.ex
  obtain ⟨mA, O, _⟩ := ins_get J.hok ea
  obtain ⟨od, I0, _⟩ := O.look
  obtain ⟨m0, fr⟩ := J.fr
  obtain ⟨P, kx, hP, _⟩ := kit_of J rz ty
  show wpAny (model X.prog X.w) X.A (richCompare .Eq (.ref a) u) (EP X pi sl Q0) X.xe s0
  refine PySem.W.cmp_K (op := .Eq) (tb := t) hr.units0 fr J.ok.mod.kin I0 (kx.ty _ _ J.kIn hP) nf hm.at_ hm.fn ?_
  cases d
  refine wpAny_mono (run_fn (us := [.ref a, u]) (vs := [.ref a, z]) F (hr.mono hk) bd .nil hx J (.cons rfl (.cons rz .nil)) q) (fun r s1 hq => ?_) fun _ _ z => z
  obtain ⟨v1, H1, J1, rv, ⟨q1, e1⟩, q2⟩ := hq
  subst e1
  obtain rfl : r = Value.bool q1 := rv
  exact ⟨.bl q1, H1, J1, rfl, q2⟩
theorem nf_int {K : Frag} {C : Addr} : PySem.W.notFirst K C (.type "int") = true := by rfl
theorem nf_str {K : Frag} {C : Addr} : PySem.W.notFirst K C (.type "str") = true := by rfl
theorem nf_non {K : Frag} {C : Addr} : PySem.W.notFirst K C (.type "NoneType") = true := by rfl
theorem nf_list {K : Frag} {C : Addr} : PySem.W.notFirst K C (.type "list") = true := by rfl
theorem nf_tuple {K : Frag} {C : Addr} : PySem.W.notFirst K C (.type "tuple") = true := by rfl
end
end Z
set_option maxHeartbeats 0
namespace T
open PySem PySem.Spec PyProof.Rows L2 Z
def topS (i : Nat) : Stmt := PySem.Challenge.pw_belownought_k00_ratio_rules.main.body.getD i (.Pass ⟨0, 0, 0, 0⟩)
abbrev s_RatioD_initD : Stmt := inClass (topS 8) 0
theorem sc_RatioD_initD : FnScope (["self", "top", "bottom", "common"] : List Str) (["self", "top", "bottom"] : List Str) (defScope s_RatioD_initD) := ⟨rfl, rfl, rfl, by decide +kernel, rfl, by decide +kernel, by decide +kernel⟩
abbrev s_RatioD_absD : Stmt := inClass (topS 8) 6
theorem sc_RatioD_absD : FnScope (["self"] : List Str) (["self"] : List Str) (defScope s_RatioD_absD) := ⟨rfl, rfl, rfl, by decide +kernel, rfl, by decide +kernel, by decide +kernel⟩
abbrev s_RatioD_negD : Stmt := inClass (topS 8) 5
theorem sc_RatioD_negD : FnScope (["self"] : List Str) (["self"] : List Str) (defScope s_RatioD_negD) := ⟨rfl, rfl, rfl, by decide +kernel, rfl, by decide +kernel, by decide +kernel⟩
abbrev s_Ratio_ceil : Stmt := inClass (topS 8) 13
theorem sc_Ratio_ceil : FnScope (["self"] : List Str) (["self"] : List Str) (defScope s_Ratio_ceil) := ⟨rfl, rfl, rfl, by decide +kernel, rfl, by decide +kernel, by decide +kernel⟩
abbrev s_Ratio_floor : Stmt := inClass (topS 8) 12
theorem sc_Ratio_floor : FnScope (["self"] : List Str) (["self"] : List Str) (defScope s_Ratio_floor) := ⟨rfl, rfl, rfl, by decide +kernel, rfl, by decide +kernel, by decide +kernel⟩
abbrev s_Ratio_sign : Stmt := inClass (topS 8) 11
theorem sc_Ratio_sign : FnScope (["self"] : List Str) (["self"] : List Str) (defScope s_Ratio_sign) := ⟨rfl, rfl, rfl, by decide +kernel, rfl, by decide +kernel, by decide +kernel⟩
abbrev s_law_whole : Stmt := topS 22
theorem sc_law_whole : FnScope (["actual", "due"] : List Str) (["actual", "due"] : List Str) (defScope s_law_whole) := ⟨rfl, rfl, rfl, by decide +kernel, rfl, by decide +kernel, by decide +kernel⟩
abbrev s_law_is : Stmt := topS 24
theorem sc_law_is : FnScope (["actual", "due"] : List Str) (["actual", "due"] : List Str) (defScope s_law_is) := ⟨rfl, rfl, rfl, by decide +kernel, rfl, by decide +kernel, by decide +kernel⟩
abbrev s_law_alone : Stmt := topS 28
theorem sc_law_alone : FnScope (["a", "one", "low", "high"] : List Str) (["a", "one"] : List Str) (defScope s_law_alone) := ⟨rfl, rfl, rfl, by decide +kernel, rfl, by decide +kernel, by decide +kernel⟩
abbrev s_law_cell : Stmt := topS 14
theorem sc_law_cell : FnScope (["script", "k"] : List Str) (["script", "k"] : List Str) (defScope s_law_cell) := ⟨rfl, rfl, rfl, by decide +kernel, rfl, by decide +kernel, by decide +kernel⟩
abbrev s_law_mod : Stmt := topS 15
theorem sc_law_mod : FnScope (["number", "size"] : List Str) (["number", "size"] : List Str) (defScope s_law_mod) := ⟨rfl, rfl, rfl, by decide +kernel, rfl, by decide +kernel, by decide +kernel⟩
abbrev s_law_ten : Stmt := topS 17
theorem sc_law_ten : FnScope (["count", "power", "k"] : List Str) (["count"] : List Str) (defScope s_law_ten) := ⟨rfl, rfl, rfl, by decide +kernel, rfl, by decide +kernel, by decide +kernel⟩
abbrev s_law_great : Stmt := topS 18
theorem sc_law_great : FnScope (["cell", "digits"] : List Str) (["cell", "digits"] : List Str) (defScope s_law_great) := ⟨rfl, rfl, rfl, by decide +kernel, rfl, by decide +kernel, by decide +kernel⟩
abbrev s_law_signed : Stmt := topS 16
theorem sc_law_signed : FnScope (["number", "bound", "place"] : List Str) (["number", "bound"] : List Str) (defScope s_law_signed) := ⟨rfl, rfl, rfl, by decide +kernel, rfl, by decide +kernel, by decide +kernel⟩
abbrev s_law_fraction : Stmt := topS 20
theorem sc_law_fraction : FnScope (["script", "at", "size", "digit", "factor", "bound", "top", "bottom", "digits", "sign"] : List Str) (["script", "at", "size"] : List Str) (defScope s_law_fraction) := ⟨rfl, rfl, rfl, by decide +kernel, rfl, by decide +kernel, by decide +kernel⟩
abbrev s_law_low : Stmt := topS 19
theorem sc_law_low : FnScope (["top", "bottom", "one", "two", "rest"] : List Str) (["top", "bottom"] : List Str) (defScope s_law_low) := ⟨rfl, rfl, rfl, by decide +kernel, rfl, by decide +kernel, by decide +kernel⟩
abbrev s_law_no_bottom : Stmt := topS 27
theorem sc_law_no_bottom : FnScope (["top", "e"] : List Str) (["top"] : List Str) (defScope s_law_no_bottom) := ⟨rfl, rfl, rfl, by decide +kernel, rfl, by decide +kernel, by decide +kernel⟩
abbrev s_OutOfBoundsD_initD : Stmt := inClass (topS 5) 0
theorem sc_OutOfBoundsD_initD : FnScope (["self", "value"] : List Str) (["self", "value"] : List Str) (defScope s_OutOfBoundsD_initD) := ⟨rfl, rfl, rfl, by decide +kernel, rfl, by decide +kernel, by decide +kernel⟩
abbrev s_check_number : Stmt := topS 6
theorem sc_check_number : FnScope (["value", "low", "high"] : List Str) (["value", "low", "high"] : List Str) (defScope s_check_number) := ⟨rfl, rfl, rfl, by decide +kernel, rfl, by decide +kernel, by decide +kernel⟩
abbrev s_whole_power : Stmt := topS 9
theorem sc_whole_power : FnScope (["number", "exponent", "power", "place"] : List Str) (["number", "exponent"] : List Str) (defScope s_whole_power) := ⟨rfl, rfl, rfl, by decide +kernel, rfl, by decide +kernel, by decide +kernel⟩
abbrev s_ratio_power : Stmt := topS 10
theorem sc_ratio_power : FnScope (["ratio", "exponent", "power"] : List Str) (["ratio", "exponent"] : List Str) (defScope s_ratio_power) := ⟨rfl, rfl, rfl, by decide +kernel, rfl, by decide +kernel, by decide +kernel⟩
abbrev s_Ratio_raised : Stmt := inClass (topS 8) 9
theorem sc_Ratio_raised : FnScope (["self", "n"] : List Str) (["self", "n"] : List Str) (defScope s_Ratio_raised) := ⟨rfl, rfl, rfl, by decide +kernel, rfl, by decide +kernel, by decide +kernel⟩
abbrev s_law_no_power : Stmt := topS 30
theorem sc_law_no_power : FnScope (["a", "exponent", "e"] : List Str) (["a", "exponent"] : List Str) (defScope s_law_no_power) := ⟨rfl, rfl, rfl, by decide +kernel, rfl, by decide +kernel, by decide +kernel⟩
abbrev s_law_other : Stmt := topS 21
theorem sc_law_other : FnScope (["script", "first", "size", "kind", "free", "factor", "step"] : List Str) (["script", "first", "size"] : List Str) (defScope s_law_other) := ⟨rfl, rfl, rfl, by decide +kernel, rfl, by decide +kernel, by decide +kernel⟩
abbrev s_law_powers : Stmt := topS 29
theorem sc_law_powers : FnScope (["a", "one", "exponents", "exponent", "top", "bottom", "k"] : List Str) (["a", "one", "exponents"] : List Str) (defScope s_law_powers) := ⟨rfl, rfl, rfl, by decide +kernel, rfl, by decide +kernel, by decide +kernel⟩
abbrev s_Ratio_divided : Stmt := inClass (topS 8) 8
theorem sc_Ratio_divided : FnScope (["self", "other"] : List Str) (["self", "other"] : List Str) (defScope s_Ratio_divided) := ⟨rfl, rfl, rfl, by decide +kernel, rfl, by decide +kernel, by decide +kernel⟩
abbrev s_law_quotient : Stmt := topS 26
theorem sc_law_quotient : FnScope (["a", "b", "one", "two", "due", "e"] : List Str) (["a", "b", "one", "two"] : List Str) (defScope s_law_quotient) := ⟨rfl, rfl, rfl, by decide +kernel, rfl, by decide +kernel, by decide +kernel⟩
abbrev s_BadTextD_initD : Stmt := inClass (topS 4) 0
theorem sc_BadTextD_initD : FnScope (["self", "given"] : List Str) (["self", "given"] : List Str) (defScope s_BadTextD_initD) := ⟨rfl, rfl, rfl, by decide +kernel, rfl, by decide +kernel, by decide +kernel⟩
abbrev s_read_whole : Stmt := topS 11
theorem sc_read_whole : FnScope (["text"] : List Str) (["text"] : List Str) (defScope s_read_whole) := ⟨rfl, rfl, rfl, by decide +kernel, rfl, by decide +kernel, by decide +kernel⟩
abbrev s_read_fraction : Stmt := topS 12
theorem sc_read_fraction : FnScope (["text", "upper", "slash", "lower", "top", "bottom"] : List Str) (["text"] : List Str) (defScope s_read_fraction) := ⟨rfl, rfl, rfl, by decide +kernel, rfl, by decide +kernel, by decide +kernel⟩
abbrev s_Ratio_read : Stmt := inClass (topS 8) 1
theorem sc_Ratio_read : FnScope (["text", "found"] : List Str) (["text"] : List Str) (defScope s_Ratio_read) := ⟨rfl, rfl, rfl, by decide +kernel, rfl, by decide +kernel, by decide +kernel⟩
abbrev s_law_refused : Stmt := topS 32
theorem sc_law_refused : FnScope (["text", "e"] : List Str) (["text"] : List Str) (defScope s_law_refused) := ⟨rfl, rfl, rfl, by decide +kernel, rfl, by decide +kernel, by decide +kernel⟩
abbrev s_RatioD_addD : Stmt := inClass (topS 8) 2
theorem sc_RatioD_addD : FnScope (["self", "other"] : List Str) (["self", "other"] : List Str) (defScope s_RatioD_addD) := ⟨rfl, rfl, rfl, by decide +kernel, rfl, by decide +kernel, by decide +kernel⟩
abbrev s_RatioD_eqD : Stmt := inClass (topS 8) 7
theorem sc_RatioD_eqD : FnScope (["self", "other"] : List Str) (["self", "other"] : List Str) (defScope s_RatioD_eqD) := ⟨rfl, rfl, rfl, by decide +kernel, rfl, by decide +kernel, by decide +kernel⟩
abbrev s_RatioD_mulD : Stmt := inClass (topS 8) 4
theorem sc_RatioD_mulD : FnScope (["self", "other"] : List Str) (["self", "other"] : List Str) (defScope s_RatioD_mulD) := ⟨rfl, rfl, rfl, by decide +kernel, rfl, by decide +kernel, by decide +kernel⟩
abbrev s_RatioD_subD : Stmt := inClass (topS 8) 3
theorem sc_RatioD_subD : FnScope (["self", "other"] : List Str) (["self", "other"] : List Str) (defScope s_RatioD_subD) := ⟨rfl, rfl, rfl, by decide +kernel, rfl, by decide +kernel, by decide +kernel⟩
abbrev s_Ratio_compare : Stmt := inClass (topS 8) 10
theorem sc_Ratio_compare : FnScope (["self", "other", "left", "right"] : List Str) (["self", "other"] : List Str) (defScope s_Ratio_compare) := ⟨rfl, rfl, rfl, by decide +kernel, rfl, by decide +kernel, by decide +kernel⟩
abbrev s_law_flag : Stmt := topS 23
theorem sc_law_flag : FnScope (["actual", "due"] : List Str) (["actual", "due"] : List Str) (defScope s_law_flag) := ⟨rfl, rfl, rfl, by decide +kernel, rfl, by decide +kernel, by decide +kernel⟩
abbrev s_law_sums : Stmt := topS 25
theorem sc_law_sums : FnScope (["a", "b", "one", "two", "left", "right", "bottom", "due", "same"] : List Str) (["a", "b", "one", "two"] : List Str) (defScope s_law_sums) := ⟨rfl, rfl, rfl, by decide +kernel, rfl, by decide +kernel, by decide +kernel⟩
abbrev s_law_long : Stmt := topS 36
theorem sc_law_long : FnScope (["count", "text", "power"] : List Str) (["count"] : List Str) (defScope s_law_long) := ⟨rfl, rfl, rfl, by decide +kernel, rfl, by decide +kernel, by decide +kernel⟩
abbrev s_law_text : Stmt := topS 31
theorem sc_law_text : FnScope (["one"] : List Str) (["one"] : List Str) (defScope s_law_text) := ⟨rfl, rfl, rfl, by decide +kernel, rfl, by decide +kernel, by decide +kernel⟩
abbrev s_law_read : Stmt := topS 33
theorem sc_law_read : FnScope (["one", "text"] : List Str) (["one"] : List Str) (defScope s_law_read) := ⟨rfl, rfl, rfl, by decide +kernel, rfl, by decide +kernel, by decide +kernel⟩
abbrev s_Ratio_text : Stmt := inClass (topS 8) 14
theorem sc_Ratio_text : FnScope (["self"] : List Str) (["self"] : List Str) (defScope s_Ratio_text) := ⟨rfl, rfl, rfl, by decide +kernel, rfl, by decide +kernel, by decide +kernel⟩
abbrev s_law_written : Stmt := topS 34
theorem sc_law_written : FnScope (["a", "one", "text"] : List Str) (["a", "one"] : List Str) (defScope s_law_written) := ⟨rfl, rfl, rfl, by decide +kernel, rfl, by decide +kernel, by decide +kernel⟩
abbrev s_law_wrong : Stmt := topS 35
theorem sc_law_wrong : FnScope (["one", "t", "top", "u", "odd"] : List Str) (["one"] : List Str) (defScope s_law_wrong) := ⟨rfl, rfl, rfl, by decide +kernel, rfl, by decide +kernel, by decide +kernel⟩
abbrev s_law_texts : Stmt := topS 38
theorem sc_law_texts : FnScope (["a", "b", "one", "two", "count", "product", "text"] : List Str) (["a", "b", "one", "two", "count"] : List Str) (defScope s_law_texts) := ⟨rfl, rfl, rfl, by decide +kernel, rfl, by decide +kernel, by decide +kernel⟩
abbrev s_law_unlike : Stmt := topS 37
theorem sc_law_unlike : FnScope (["a", "one", "others", "thing"] : List Str) (["a", "one"] : List Str) (defScope s_law_unlike) := ⟨rfl, rfl, rfl, by decide +kernel, rfl, by decide +kernel, by decide +kernel⟩
abbrev s_law : Stmt := topS 39
theorem sc_law : FnScope (["script", "size", "first", "second", "a", "b", "one", "two", "count", "exponents", "above", "below", "exponent"] : List Str) (["script"] : List Str) (defScope s_law) := ⟨rfl, rfl, rfl, by decide +kernel, rfl, by decide +kernel, by decide +kernel⟩
def df_RatioD_initD : He5.DefA := ⟨fun K => He.fAd K ("Ratio", some "__init__"), "__init__", "Ratio.__init__", defArgs s_RatioD_initD, defBody s_RatioD_initD, defScope s_RatioD_initD, [.int 1], []⟩
def df_RatioD_absD : He5.DefA := ⟨fun K => He.fAd K ("Ratio", some "__abs__"), "__abs__", "Ratio.__abs__", defArgs s_RatioD_absD, defBody s_RatioD_absD, defScope s_RatioD_absD, [], []⟩
def df_RatioD_negD : He5.DefA := ⟨fun K => He.fAd K ("Ratio", some "__neg__"), "__neg__", "Ratio.__neg__", defArgs s_RatioD_negD, defBody s_RatioD_negD, defScope s_RatioD_negD, [], []⟩
def df_Ratio_ceil : He5.DefA := ⟨fun K => He.fAd K ("Ratio", some "ceil"), "ceil", "Ratio.ceil", defArgs s_Ratio_ceil, defBody s_Ratio_ceil, defScope s_Ratio_ceil, [], []⟩
def df_Ratio_floor : He5.DefA := ⟨fun K => He.fAd K ("Ratio", some "floor"), "floor", "Ratio.floor", defArgs s_Ratio_floor, defBody s_Ratio_floor, defScope s_Ratio_floor, [], []⟩
def df_Ratio_sign : He5.DefA := ⟨fun K => He.fAd K ("Ratio", some "sign"), "sign", "Ratio.sign", defArgs s_Ratio_sign, defBody s_Ratio_sign, defScope s_Ratio_sign, [], []⟩
def df_law_whole : He5.DefA := ⟨fun K => He.fAd K ("_law_whole", none), "_law_whole", "_law_whole", defArgs s_law_whole, defBody s_law_whole, defScope s_law_whole, [], []⟩
def df_law_is : He5.DefA := ⟨fun K => He.fAd K ("_law_is", none), "_law_is", "_law_is", defArgs s_law_is, defBody s_law_is, defScope s_law_is, [], []⟩
def df_law_alone : He5.DefA := ⟨fun K => He.fAd K ("_law_alone", none), "_law_alone", "_law_alone", defArgs s_law_alone, defBody s_law_alone, defScope s_law_alone, [], []⟩
def df_law_cell : He5.DefA := ⟨fun K => He.fAd K ("_law_cell", none), "_law_cell", "_law_cell", defArgs s_law_cell, defBody s_law_cell, defScope s_law_cell, [], []⟩
def df_law_mod : He5.DefA := ⟨fun K => He.fAd K ("_law_mod", none), "_law_mod", "_law_mod", defArgs s_law_mod, defBody s_law_mod, defScope s_law_mod, [], []⟩
def df_law_ten : He5.DefA := ⟨fun K => He.fAd K ("_law_ten", none), "_law_ten", "_law_ten", defArgs s_law_ten, defBody s_law_ten, defScope s_law_ten, [], []⟩
def df_law_great : He5.DefA := ⟨fun K => He.fAd K ("_law_great", none), "_law_great", "_law_great", defArgs s_law_great, defBody s_law_great, defScope s_law_great, [], []⟩
def df_law_signed : He5.DefA := ⟨fun K => He.fAd K ("_law_signed", none), "_law_signed", "_law_signed", defArgs s_law_signed, defBody s_law_signed, defScope s_law_signed, [], []⟩
def df_law_fraction : He5.DefA := ⟨fun K => He.fAd K ("_law_fraction", none), "_law_fraction", "_law_fraction", defArgs s_law_fraction, defBody s_law_fraction, defScope s_law_fraction, [], []⟩
def df_law_low : He5.DefA := ⟨fun K => He.fAd K ("_law_low", none), "_law_low", "_law_low", defArgs s_law_low, defBody s_law_low, defScope s_law_low, [], []⟩
def df_law_no_bottom : He5.DefA := ⟨fun K => He.fAd K ("_law_no_bottom", none), "_law_no_bottom", "_law_no_bottom", defArgs s_law_no_bottom, defBody s_law_no_bottom, defScope s_law_no_bottom, [], []⟩
def df_OutOfBoundsD_initD : He5.DefA := ⟨fun K => He.fAd K ("OutOfBounds", some "__init__"), "__init__", "OutOfBounds.__init__", defArgs s_OutOfBoundsD_initD, defBody s_OutOfBoundsD_initD, defScope s_OutOfBoundsD_initD, [], []⟩
def df_check_number : He5.DefA := ⟨fun K => He.fAd K ("check_number", none), "check_number", "check_number", defArgs s_check_number, defBody s_check_number, defScope s_check_number, [.non], []⟩
def df_whole_power : He5.DefA := ⟨fun K => He.fAd K ("whole_power", none), "whole_power", "whole_power", defArgs s_whole_power, defBody s_whole_power, defScope s_whole_power, [], []⟩
def df_ratio_power : He5.DefA := ⟨fun K => He.fAd K ("ratio_power", none), "ratio_power", "ratio_power", defArgs s_ratio_power, defBody s_ratio_power, defScope s_ratio_power, [], []⟩
def df_Ratio_raised : He5.DefA := ⟨fun K => He.fAd K ("Ratio", some "raised"), "raised", "Ratio.raised", defArgs s_Ratio_raised, defBody s_Ratio_raised, defScope s_Ratio_raised, [], []⟩
def df_law_no_power : He5.DefA := ⟨fun K => He.fAd K ("_law_no_power", none), "_law_no_power", "_law_no_power", defArgs s_law_no_power, defBody s_law_no_power, defScope s_law_no_power, [], []⟩
def df_law_other : He5.DefA := ⟨fun K => He.fAd K ("_law_other", none), "_law_other", "_law_other", defArgs s_law_other, defBody s_law_other, defScope s_law_other, [], []⟩
def df_law_powers : He5.DefA := ⟨fun K => He.fAd K ("_law_powers", none), "_law_powers", "_law_powers", defArgs s_law_powers, defBody s_law_powers, defScope s_law_powers, [], []⟩
def df_Ratio_divided : He5.DefA := ⟨fun K => He.fAd K ("Ratio", some "divided"), "divided", "Ratio.divided", defArgs s_Ratio_divided, defBody s_Ratio_divided, defScope s_Ratio_divided, [], []⟩
def df_law_quotient : He5.DefA := ⟨fun K => He.fAd K ("_law_quotient", none), "_law_quotient", "_law_quotient", defArgs s_law_quotient, defBody s_law_quotient, defScope s_law_quotient, [], []⟩
def df_BadTextD_initD : He5.DefA := ⟨fun K => He.fAd K ("BadText", some "__init__"), "__init__", "BadText.__init__", defArgs s_BadTextD_initD, defBody s_BadTextD_initD, defScope s_BadTextD_initD, [], []⟩
def df_read_whole : He5.DefA := ⟨fun K => He.fAd K ("read_whole", none), "read_whole", "read_whole", defArgs s_read_whole, defBody s_read_whole, defScope s_read_whole, [], []⟩
def df_read_fraction : He5.DefA := ⟨fun K => He.fAd K ("read_fraction", none), "read_fraction", "read_fraction", defArgs s_read_fraction, defBody s_read_fraction, defScope s_read_fraction, [], []⟩
def df_Ratio_read : He5.DefA := ⟨fun K => He5.wf K (He.ga K "Ratio") "staticmethod" "read", "read", "Ratio.read", defArgs s_Ratio_read, defBody s_Ratio_read, defScope s_Ratio_read, [], []⟩
def df_law_refused : He5.DefA := ⟨fun K => He.fAd K ("_law_refused", none), "_law_refused", "_law_refused", defArgs s_law_refused, defBody s_law_refused, defScope s_law_refused, [], []⟩
def df_RatioD_addD : He5.DefA := ⟨fun K => He.fAd K ("Ratio", some "__add__"), "__add__", "Ratio.__add__", defArgs s_RatioD_addD, defBody s_RatioD_addD, defScope s_RatioD_addD, [], []⟩
def df_RatioD_eqD : He5.DefA := ⟨fun K => He.fAd K ("Ratio", some "__eq__"), "__eq__", "Ratio.__eq__", defArgs s_RatioD_eqD, defBody s_RatioD_eqD, defScope s_RatioD_eqD, [], []⟩
def df_RatioD_mulD : He5.DefA := ⟨fun K => He.fAd K ("Ratio", some "__mul__"), "__mul__", "Ratio.__mul__", defArgs s_RatioD_mulD, defBody s_RatioD_mulD, defScope s_RatioD_mulD, [], []⟩
def df_RatioD_subD : He5.DefA := ⟨fun K => He.fAd K ("Ratio", some "__sub__"), "__sub__", "Ratio.__sub__", defArgs s_RatioD_subD, defBody s_RatioD_subD, defScope s_RatioD_subD, [], []⟩
def df_Ratio_compare : He5.DefA := ⟨fun K => He.fAd K ("Ratio", some "compare"), "compare", "Ratio.compare", defArgs s_Ratio_compare, defBody s_Ratio_compare, defScope s_Ratio_compare, [], []⟩
def df_law_flag : He5.DefA := ⟨fun K => He.fAd K ("_law_flag", none), "_law_flag", "_law_flag", defArgs s_law_flag, defBody s_law_flag, defScope s_law_flag, [], []⟩
def df_law_sums : He5.DefA := ⟨fun K => He.fAd K ("_law_sums", none), "_law_sums", "_law_sums", defArgs s_law_sums, defBody s_law_sums, defScope s_law_sums, [], []⟩
def df_law_long : He5.DefA := ⟨fun K => He.fAd K ("_law_long", none), "_law_long", "_law_long", defArgs s_law_long, defBody s_law_long, defScope s_law_long, [], []⟩
def df_law_text : He5.DefA := ⟨fun K => He.fAd K ("_law_text", none), "_law_text", "_law_text", defArgs s_law_text, defBody s_law_text, defScope s_law_text, [], []⟩
def df_law_read : He5.DefA := ⟨fun K => He.fAd K ("_law_read", none), "_law_read", "_law_read", defArgs s_law_read, defBody s_law_read, defScope s_law_read, [], []⟩
def df_Ratio_text : He5.DefA := ⟨fun K => He.fAd K ("Ratio", some "text"), "text", "Ratio.text", defArgs s_Ratio_text, defBody s_Ratio_text, defScope s_Ratio_text, [], []⟩
def df_law_written : He5.DefA := ⟨fun K => He.fAd K ("_law_written", none), "_law_written", "_law_written", defArgs s_law_written, defBody s_law_written, defScope s_law_written, [], []⟩
def df_law_wrong : He5.DefA := ⟨fun K => He.fAd K ("_law_wrong", none), "_law_wrong", "_law_wrong", defArgs s_law_wrong, defBody s_law_wrong, defScope s_law_wrong, [], []⟩
def df_law_texts : He5.DefA := ⟨fun K => He.fAd K ("_law_texts", none), "_law_texts", "_law_texts", defArgs s_law_texts, defBody s_law_texts, defScope s_law_texts, [], []⟩
def df_law_unlike : He5.DefA := ⟨fun K => He.fAd K ("_law_unlike", none), "_law_unlike", "_law_unlike", defArgs s_law_unlike, defBody s_law_unlike, defScope s_law_unlike, [], []⟩
def df_law : He5.DefA := ⟨fun K => He.fAd K ("law", none), "law", "law", defArgs s_law, defBody s_law, defScope s_law, [], []⟩
def fn : List He5.DefA := [df_RatioD_initD, df_RatioD_absD, df_RatioD_negD, df_Ratio_ceil, df_Ratio_floor, df_Ratio_sign, df_law_whole, df_law_is, df_law_alone, df_law_cell, df_law_mod, df_law_ten, df_law_great, df_law_signed, df_law_fraction, df_law_low, df_law_no_bottom, df_OutOfBoundsD_initD, df_check_number, df_whole_power, df_ratio_power, df_Ratio_raised, df_law_no_power, df_law_other, df_law_powers, df_Ratio_divided, df_law_quotient, df_BadTextD_initD, df_read_whole, df_read_fraction, df_Ratio_read, df_law_refused, df_RatioD_addD, df_RatioD_eqD, df_RatioD_mulD, df_RatioD_subD, df_Ratio_compare, df_law_flag, df_law_sums, df_law_long, df_law_text, df_law_read, df_Ratio_text, df_law_written, df_law_wrong, df_law_texts, df_law_unlike, df_law]
def fb : List Chk := [cGlo "BadText", cGlo "NoughtError", cGlo "OutOfBounds", cGlo "Ratio", cGlo "ZeroBottom", cGlo "_law_alone", cGlo "_law_cell", cGlo "_law_flag", cGlo "_law_fraction", cGlo "_law_great", cGlo "_law_is", cGlo "_law_long", cGlo "_law_low", cGlo "_law_mod", cGlo "_law_no_bottom", cGlo "_law_no_power", cGlo "_law_other", cGlo "_law_powers", cGlo "_law_quotient", cGlo "_law_read", cGlo "_law_refused", cGlo "_law_signed", cGlo "_law_sums", cGlo "_law_ten", cGlo "_law_text", cGlo "_law_texts", cGlo "_law_unlike", cGlo "_law_whole", cGlo "_law_written", cGlo "_law_wrong", cGlo "check_number", cGlo "law", cGlo "ratio_power", cGlo "read_fraction", cGlo "read_whole", cGlo "whole_power", cFree "ValueError", cFree "abs", cFree "all", cFree "bool", cVal "gcd" "math.gcd", cFree "int", cFree "isinstance", cFree "len", cFree "list", cFree "range", cFree "staticmethod", cFree "str", cCls "Ratio", cIns "Ratio", cMk "Ratio", cSelf "Ratio", cNo "Ratio" "bottom", cNo "Ratio" "top", cMeth "Ratio" "__abs__", cMeth "Ratio" "__neg__", cMeth "Ratio" "ceil", cMeth "Ratio" "floor", cMeth "Ratio" "sign", cMeth "Ratio" "raised", cMeth "Ratio" "divided", cRead "Ratio", cStat "Ratio" "read", cMeth "Ratio" "__add__", cMeth "Ratio" "__eq__", cMeth "Ratio" "__mul__", cMeth "Ratio" "__sub__", cMeth "Ratio" "compare", cMeth "Ratio" "text", cOex "BadText", cNo "BadText" "given", cOex "OutOfBounds", cNo "OutOfBounds" "value", cExc0 "ZeroBottom", cExm "BadText" "BadText" true, cExm "BadText" "OutOfBounds" false, cExm "BadText" "ZeroBottom" false, cExm "OutOfBounds" "BadText" false, cExm "OutOfBounds" "OutOfBounds" true, cExm "OutOfBounds" "ZeroBottom" false, cExm "ZeroBottom" "BadText" false, cExm "ZeroBottom" "OutOfBounds" false, cExm "ZeroBottom" "ZeroBottom" true, cDig, cExcC "BadText", cExcC "OutOfBounds", cExcC "ZeroBottom", cKit "Ratio" "Ratio" true, cKitT "int" "Ratio" false, cKitT "tuple" "Ratio" false, cKitT "list" "Ratio" false, cKitT "str" "Ratio" false, cKitT "NoneType" "Ratio" false, cKit "ZeroBottom" "NoughtError" true, cKit "ZeroBottom" "ZeroBottom" true, cKit "ZeroBottom" "BadText" false, cKit "ZeroBottom" "OutOfBounds" false, cKitU "ZeroBottom" "ValueError" true, cKit "BadText" "NoughtError" true, cKit "BadText" "ZeroBottom" false, cKit "BadText" "BadText" true, cKit "BadText" "OutOfBounds" false, cKitU "BadText" "ValueError" true, cKit "OutOfBounds" "NoughtError" true, cKit "OutOfBounds" "ZeroBottom" false, cKit "OutOfBounds" "BadText" false, cKit "OutOfBounds" "OutOfBounds" true, cKitU "OutOfBounds" "ValueError" true]
abbrev Lw (K : Frag) (mg : Str → Option Value) : Prop := LwB fb fn K mg
section
variable {K : Frag} {mg : Str → Option Value}
theorem Lw.g_BadText (L : Lw K mg) : mg "BadText" = some (.ref (He.ga K "BadText")) := by
  obtain ⟨h, X, G⟩ := L.at_
  exact He.glo_ok X G (L.c.fact 0 rfl)
theorem Lw.g_NoughtError (L : Lw K mg) : mg "NoughtError" = some (.ref (He.ga K "NoughtError")) := by
  obtain ⟨h, X, G⟩ := L.at_
  exact He.glo_ok X G (L.c.fact 1 rfl)
theorem Lw.g_OutOfBounds (L : Lw K mg) : mg "OutOfBounds" = some (.ref (He.ga K "OutOfBounds")) := by
  obtain ⟨h, X, G⟩ := L.at_
  exact He.glo_ok X G (L.c.fact 2 rfl)
theorem Lw.g_Ratio (L : Lw K mg) : mg "Ratio" = some (.ref (He.ga K "Ratio")) := by
  obtain ⟨h, X, G⟩ := L.at_
  exact He.glo_ok X G (L.c.fact 3 rfl)
theorem Lw.g_ZeroBottom (L : Lw K mg) : mg "ZeroBottom" = some (.ref (He.ga K "ZeroBottom")) := by
  obtain ⟨h, X, G⟩ := L.at_
  exact He.glo_ok X G (L.c.fact 4 rfl)
theorem Lw.g_law_alone (L : Lw K mg) : mg "_law_alone" = some (.ref (He.ga K "_law_alone")) := by
  obtain ⟨h, X, G⟩ := L.at_
  exact He.glo_ok X G (L.c.fact 5 rfl)
theorem Lw.g_law_cell (L : Lw K mg) : mg "_law_cell" = some (.ref (He.ga K "_law_cell")) := by
  obtain ⟨h, X, G⟩ := L.at_
  exact He.glo_ok X G (L.c.fact 6 rfl)
theorem Lw.g_law_flag (L : Lw K mg) : mg "_law_flag" = some (.ref (He.ga K "_law_flag")) := by
  obtain ⟨h, X, G⟩ := L.at_
  exact He.glo_ok X G (L.c.fact 7 rfl)
theorem Lw.g_law_fraction (L : Lw K mg) : mg "_law_fraction" = some (.ref (He.ga K "_law_fraction")) := by
  obtain ⟨h, X, G⟩ := L.at_
  exact He.glo_ok X G (L.c.fact 8 rfl)
theorem Lw.g_law_great (L : Lw K mg) : mg "_law_great" = some (.ref (He.ga K "_law_great")) := by
  obtain ⟨h, X, G⟩ := L.at_
  exact He.glo_ok X G (L.c.fact 9 rfl)
theorem Lw.g_law_is (L : Lw K mg) : mg "_law_is" = some (.ref (He.ga K "_law_is")) := by
  obtain ⟨h, X, G⟩ := L.at_
  exact He.glo_ok X G (L.c.fact 10 rfl)
theorem Lw.g_law_long (L : Lw K mg) : mg "_law_long" = some (.ref (He.ga K "_law_long")) := by
  obtain ⟨h, X, G⟩ := L.at_
  exact He.glo_ok X G (L.c.fact 11 rfl)
theorem Lw.g_law_low (L : Lw K mg) : mg "_law_low" = some (.ref (He.ga K "_law_low")) := by
  obtain ⟨h, X, G⟩ := L.at_
  exact He.glo_ok X G (L.c.fact 12 rfl)
theorem Lw.g_law_mod (L : Lw K mg) : mg "_law_mod" = some (.ref (He.ga K "_law_mod")) := by
  obtain ⟨h, X, G⟩ := L.at_
  exact He.glo_ok X G (L.c.fact 13 rfl)
theorem Lw.g_law_no_bottom (L : Lw K mg) : mg "_law_no_bottom" = some (.ref (He.ga K "_law_no_bottom")) := by
  obtain ⟨h, X, G⟩ := L.at_
  exact He.glo_ok X G (L.c.fact 14 rfl)
theorem Lw.g_law_no_power (L : Lw K mg) : mg "_law_no_power" = some (.ref (He.ga K "_law_no_power")) := by
  obtain ⟨h, X, G⟩ := L.at_
  exact He.glo_ok X G (L.c.fact 15 rfl)
theorem Lw.g_law_other (L : Lw K mg) : mg "_law_other" = some (.ref (He.ga K "_law_other")) := by
  obtain ⟨h, X, G⟩ := L.at_
  exact He.glo_ok X G (L.c.fact 16 rfl)
theorem Lw.g_law_powers (L : Lw K mg) : mg "_law_powers" = some (.ref (He.ga K "_law_powers")) := by
  obtain ⟨h, X, G⟩ := L.at_
  exact He.glo_ok X G (L.c.fact 17 rfl)
theorem Lw.g_law_quotient (L : Lw K mg) : mg "_law_quotient" = some (.ref (He.ga K "_law_quotient")) := by
  obtain ⟨h, X, G⟩ := L.at_
  exact He.glo_ok X G (L.c.fact 18 rfl)
theorem Lw.g_law_read (L : Lw K mg) : mg "_law_read" = some (.ref (He.ga K "_law_read")) := by
  obtain ⟨h, X, G⟩ := L.at_
  exact He.glo_ok X G (L.c.fact 19 rfl)
theorem Lw.g_law_refused (L : Lw K mg) : mg "_law_refused" = some (.ref (He.ga K "_law_refused")) := by
  obtain ⟨h, X, G⟩ := L.at_
  exact He.glo_ok X G (L.c.fact 20 rfl)
theorem Lw.g_law_signed (L : Lw K mg) : mg "_law_signed" = some (.ref (He.ga K "_law_signed")) := by
  obtain ⟨h, X, G⟩ := L.at_
  exact He.glo_ok X G (L.c.fact 21 rfl)
theorem Lw.g_law_sums (L : Lw K mg) : mg "_law_sums" = some (.ref (He.ga K "_law_sums")) := by
  obtain ⟨h, X, G⟩ := L.at_
  exact He.glo_ok X G (L.c.fact 22 rfl)
theorem Lw.g_law_ten (L : Lw K mg) : mg "_law_ten" = some (.ref (He.ga K "_law_ten")) := by
  obtain ⟨h, X, G⟩ := L.at_
  exact He.glo_ok X G (L.c.fact 23 rfl)
theorem Lw.g_law_text (L : Lw K mg) : mg "_law_text" = some (.ref (He.ga K "_law_text")) := by
  obtain ⟨h, X, G⟩ := L.at_
  exact He.glo_ok X G (L.c.fact 24 rfl)
theorem Lw.g_law_texts (L : Lw K mg) : mg "_law_texts" = some (.ref (He.ga K "_law_texts")) := by
  obtain ⟨h, X, G⟩ := L.at_
  exact He.glo_ok X G (L.c.fact 25 rfl)
theorem Lw.g_law_unlike (L : Lw K mg) : mg "_law_unlike" = some (.ref (He.ga K "_law_unlike")) := by
  obtain ⟨h, X, G⟩ := L.at_
  exact He.glo_ok X G (L.c.fact 26 rfl)
theorem Lw.g_law_whole (L : Lw K mg) : mg "_law_whole" = some (.ref (He.ga K "_law_whole")) := by
  obtain ⟨h, X, G⟩ := L.at_
  exact He.glo_ok X G (L.c.fact 27 rfl)
theorem Lw.g_law_written (L : Lw K mg) : mg "_law_written" = some (.ref (He.ga K "_law_written")) := by
  obtain ⟨h, X, G⟩ := L.at_
  exact He.glo_ok X G (L.c.fact 28 rfl)
theorem Lw.g_law_wrong (L : Lw K mg) : mg "_law_wrong" = some (.ref (He.ga K "_law_wrong")) := by
  obtain ⟨h, X, G⟩ := L.at_
  exact He.glo_ok X G (L.c.fact 29 rfl)
theorem Lw.g_check_number (L : Lw K mg) : mg "check_number" = some (.ref (He.ga K "check_number")) := by
  obtain ⟨h, X, G⟩ := L.at_
  exact He.glo_ok X G (L.c.fact 30 rfl)
theorem Lw.g_law (L : Lw K mg) : mg "law" = some (.ref (He.ga K "law")) := by
  obtain ⟨h, X, G⟩ := L.at_
  exact He.glo_ok X G (L.c.fact 31 rfl)
theorem Lw.g_ratio_power (L : Lw K mg) : mg "ratio_power" = some (.ref (He.ga K "ratio_power")) := by
  obtain ⟨h, X, G⟩ := L.at_
  exact He.glo_ok X G (L.c.fact 32 rfl)
theorem Lw.g_read_fraction (L : Lw K mg) : mg "read_fraction" = some (.ref (He.ga K "read_fraction")) := by
  obtain ⟨h, X, G⟩ := L.at_
  exact He.glo_ok X G (L.c.fact 33 rfl)
theorem Lw.g_read_whole (L : Lw K mg) : mg "read_whole" = some (.ref (He.ga K "read_whole")) := by
  obtain ⟨h, X, G⟩ := L.at_
  exact He.glo_ok X G (L.c.fact 34 rfl)
theorem Lw.g_whole_power (L : Lw K mg) : mg "whole_power" = some (.ref (He.ga K "whole_power")) := by
  obtain ⟨h, X, G⟩ := L.at_
  exact He.glo_ok X G (L.c.fact 35 rfl)
theorem Lw.f_ValueError (L : Lw K mg) : mg "ValueError" = none := by
  obtain ⟨h, X, G⟩ := L.at_
  exact He.free_ok X G (L.c.fact 36 rfl)
theorem Lw.f_abs (L : Lw K mg) : mg "abs" = none := by
  obtain ⟨h, X, G⟩ := L.at_
  exact He.free_ok X G (L.c.fact 37 rfl)
theorem Lw.f_all (L : Lw K mg) : mg "all" = none := by
  obtain ⟨h, X, G⟩ := L.at_
  exact He.free_ok X G (L.c.fact 38 rfl)
theorem Lw.f_bool (L : Lw K mg) : mg "bool" = none := by
  obtain ⟨h, X, G⟩ := L.at_
  exact He.free_ok X G (L.c.fact 39 rfl)
theorem Lw.v_gcd (L : Lw K mg) : mg "gcd" = some (.builtin "math.gcd") := by
  obtain ⟨h, X, G⟩ := L.at_
  exact PySem.W.mg_of X G (He.eqO_ok (L.c.fact 40 rfl))
theorem Lw.f_int (L : Lw K mg) : mg "int" = none := by
  obtain ⟨h, X, G⟩ := L.at_
  exact He.free_ok X G (L.c.fact 41 rfl)
theorem Lw.f_isinstance (L : Lw K mg) : mg "isinstance" = none := by
  obtain ⟨h, X, G⟩ := L.at_
  exact He.free_ok X G (L.c.fact 42 rfl)
theorem Lw.f_len (L : Lw K mg) : mg "len" = none := by
  obtain ⟨h, X, G⟩ := L.at_
  exact He.free_ok X G (L.c.fact 43 rfl)
theorem Lw.f_list (L : Lw K mg) : mg "list" = none := by
  obtain ⟨h, X, G⟩ := L.at_
  exact He.free_ok X G (L.c.fact 44 rfl)
theorem Lw.f_range (L : Lw K mg) : mg "range" = none := by
  obtain ⟨h, X, G⟩ := L.at_
  exact He.free_ok X G (L.c.fact 45 rfl)
theorem Lw.f_str (L : Lw K mg) : mg "str" = none := by
  obtain ⟨h, X, G⟩ := L.at_
  exact He.free_ok X G (L.c.fact 47 rfl)
theorem Lw.cl_Ratio (L : Lw K mg) : Cls K (He.ga K "Ratio") := He.cls_ok (L.c.fact 48 rfl)
theorem Lw.in_Ratio (L : Lw K mg) : InsK K (He.ga K "Ratio") := insK_ok (L.c.fact 49 rfl)
theorem Lw.mk_Ratio (L : Lw K mg) : Mk K (He.ga K "Ratio") (He.ma K (He.ga K "Ratio") "__init__") := He.mkr_ok (L.c.fact 50 rfl)
theorem Lw.sf_Ratio (L : Lw K mg) : PySem.W.selfFirst K (He.ga K "Ratio") = true := (L.c.fact 51 rfl)
theorem Lw.na_Ratio_bottom (L : Lw K mg) : NoAttr K (He.ga K "Ratio") "bottom" := He.noat_ok (L.c.fact 52 rfl)
theorem Lw.na_Ratio_top (L : Lw K mg) : NoAttr K (He.ga K "Ratio") "top" := He.noat_ok (L.c.fact 53 rfl)
theorem Lw.me_RatioD_absD (L : Lw K mg) : Meth K (He.ga K "Ratio") "__abs__" (He.ma K (He.ga K "Ratio") "__abs__") := He.meth_ok (L.c.fact 54 rfl)
theorem Lw.me_RatioD_negD (L : Lw K mg) : Meth K (He.ga K "Ratio") "__neg__" (He.ma K (He.ga K "Ratio") "__neg__") := He.meth_ok (L.c.fact 55 rfl)
theorem Lw.me_Ratio_ceil (L : Lw K mg) : Meth K (He.ga K "Ratio") "ceil" (He.ma K (He.ga K "Ratio") "ceil") := He.meth_ok (L.c.fact 56 rfl)
theorem Lw.me_Ratio_floor (L : Lw K mg) : Meth K (He.ga K "Ratio") "floor" (He.ma K (He.ga K "Ratio") "floor") := He.meth_ok (L.c.fact 57 rfl)
theorem Lw.me_Ratio_sign (L : Lw K mg) : Meth K (He.ga K "Ratio") "sign" (He.ma K (He.ga K "Ratio") "sign") := He.meth_ok (L.c.fact 58 rfl)
theorem Lw.me_Ratio_raised (L : Lw K mg) : Meth K (He.ga K "Ratio") "raised" (He.ma K (He.ga K "Ratio") "raised") := He.meth_ok (L.c.fact 59 rfl)
theorem Lw.me_Ratio_divided (L : Lw K mg) : Meth K (He.ga K "Ratio") "divided" (He.ma K (He.ga K "Ratio") "divided") := He.meth_ok (L.c.fact 60 rfl)
theorem Lw.cr_Ratio (L : Lw K mg) : ClX.CRead K (He.ga K "Ratio") (.type "type") := cread_ok (L.c.fact 61 rfl)
theorem Lw.sm_Ratio_read (L : Lw K mg) : SMet K (He.ga K "Ratio") "read" (He.ma K (He.ga K "Ratio") "read") (He5.wf K (He.ga K "Ratio") "staticmethod" "read") := smet_ok (L.c.fact 62 rfl)
theorem Lw.me_RatioD_addD (L : Lw K mg) : Meth K (He.ga K "Ratio") "__add__" (He.ma K (He.ga K "Ratio") "__add__") := He.meth_ok (L.c.fact 63 rfl)
theorem Lw.me_RatioD_eqD (L : Lw K mg) : Meth K (He.ga K "Ratio") "__eq__" (He.ma K (He.ga K "Ratio") "__eq__") := He.meth_ok (L.c.fact 64 rfl)
theorem Lw.me_RatioD_mulD (L : Lw K mg) : Meth K (He.ga K "Ratio") "__mul__" (He.ma K (He.ga K "Ratio") "__mul__") := He.meth_ok (L.c.fact 65 rfl)
theorem Lw.me_RatioD_subD (L : Lw K mg) : Meth K (He.ga K "Ratio") "__sub__" (He.ma K (He.ga K "Ratio") "__sub__") := He.meth_ok (L.c.fact 66 rfl)
theorem Lw.me_Ratio_compare (L : Lw K mg) : Meth K (He.ga K "Ratio") "compare" (He.ma K (He.ga K "Ratio") "compare") := He.meth_ok (L.c.fact 67 rfl)
theorem Lw.me_Ratio_text (L : Lw K mg) : Meth K (He.ga K "Ratio") "text" (He.ma K (He.ga K "Ratio") "text") := He.meth_ok (L.c.fact 68 rfl)
theorem Lw.ox_BadText (L : Lw K mg) : OexC K (He.ga K "BadText") ∧ PySem.W.findIn K (.ref (He.ga K "BadText")) "__init__" = some (some (.ref (He.ma K (He.ga K "BadText") "__init__"))) ∧ PySem.W.typeIn K (.ref (He.ma K (He.ga K "BadText") "__init__")) = some (.type "function") := oex_ok (L.c.fact 69 rfl)
theorem Lw.na_BadText_given (L : Lw K mg) : NoAttr K (He.ga K "BadText") "given" := He.noat_ok (L.c.fact 70 rfl)
theorem Lw.ox_OutOfBounds (L : Lw K mg) : OexC K (He.ga K "OutOfBounds") ∧ PySem.W.findIn K (.ref (He.ga K "OutOfBounds")) "__init__" = some (some (.ref (He.ma K (He.ga K "OutOfBounds") "__init__"))) ∧ PySem.W.typeIn K (.ref (He.ma K (He.ga K "OutOfBounds") "__init__")) = some (.type "function") := oex_ok (L.c.fact 71 rfl)
theorem Lw.na_OutOfBounds_value (L : Lw K mg) : NoAttr K (He.ga K "OutOfBounds") "value" := He.noat_ok (L.c.fact 72 rfl)
theorem Lw.e0_ZeroBottom (L : Lw K mg) : PySem.W.excIn K (He.ga K "ZeroBottom") He.veBase "ValueError.__new__" = true ∧ PySem.W.keepIn K (.ref (He.ga K "ZeroBottom")) = true ∧ PySem.W.subIn K (.ref (He.ga K "ZeroBottom")) (.type "BaseException") = some true ∧ PySem.W.typeIn K (.ref (He.ga K "ZeroBottom")) = some (.type "type") := He.exc_ok (L.c.fact 73 rfl)
theorem Lw.xi_ZeroBottom (L : Lw K mg) : PySem.W.excIn K (He.ga K "ZeroBottom") He.veBase "ValueError.__new__" = true := (L.e0_ZeroBottom).1
theorem Lw.kp_ZeroBottom (L : Lw K mg) : PySem.W.keepIn K (.ref (He.ga K "ZeroBottom")) = true := (L.e0_ZeroBottom).2.1
theorem Lw.xb_ZeroBottom (L : Lw K mg) : PySem.W.subIn K (.ref (He.ga K "ZeroBottom")) (.type "BaseException") = some true := (L.e0_ZeroBottom).2.2.1
theorem Lw.xt_ZeroBottom (L : Lw K mg) : PySem.W.typeIn K (.ref (He.ga K "ZeroBottom")) = some (.type "type") := (L.e0_ZeroBottom).2.2.2
theorem Lw.xm_BadText_BadText (L : Lw K mg) : PySem.W.exmOne K (.ref (He.ga K "BadText")) (.ref (He.ga K "BadText")) = some true := He.exm_ok (L.c.fact 74 rfl)
theorem Lw.xm_OutOfBounds_OutOfBounds (L : Lw K mg) : PySem.W.exmOne K (.ref (He.ga K "OutOfBounds")) (.ref (He.ga K "OutOfBounds")) = some true := He.exm_ok (L.c.fact 78 rfl)
theorem Lw.xm_ZeroBottom_ZeroBottom (L : Lw K mg) : PySem.W.exmOne K (.ref (He.ga K "ZeroBottom")) (.ref (He.ga K "ZeroBottom")) = some true := He.exm_ok (L.c.fact 82 rfl)
theorem Lw.dig (L : Lw K mg) : Dig K := dig_ok (L.c.fact 83 rfl)
theorem Lw.ec_BadText (L : Lw K mg) : ExcC K (He.ga K "BadText") := excC_ok (L.c.fact 84 rfl)
theorem Lw.xf_BadText (L : Lw K mg) : XfC K (He.ga K "BadText") := (L.ec_BadText).xf
theorem Lw.ec_OutOfBounds (L : Lw K mg) : ExcC K (He.ga K "OutOfBounds") := excC_ok (L.c.fact 85 rfl)
theorem Lw.xf_OutOfBounds (L : Lw K mg) : XfC K (He.ga K "OutOfBounds") := (L.ec_OutOfBounds).xf
theorem Lw.ec_ZeroBottom (L : Lw K mg) : ExcC K (He.ga K "ZeroBottom") := excC_ok (L.c.fact 86 rfl)
theorem Lw.kt_Ratio_Ratio (L : Lw K mg) : PySem.W.kitOne K (.ref (He.ga K "Ratio")) (.ref (He.ga K "Ratio")) = some true := of_decide_eq_true (L.c.fact 87 rfl)
theorem Lw.kt_int_Ratio (L : Lw K mg) : PySem.W.kitOne K (.type "int") (.ref (He.ga K "Ratio")) = some false := of_decide_eq_true (L.c.fact 88 rfl)
theorem Lw.kt_tuple_Ratio (L : Lw K mg) : PySem.W.kitOne K (.type "tuple") (.ref (He.ga K "Ratio")) = some false := of_decide_eq_true (L.c.fact 89 rfl)
theorem Lw.kt_list_Ratio (L : Lw K mg) : PySem.W.kitOne K (.type "list") (.ref (He.ga K "Ratio")) = some false := of_decide_eq_true (L.c.fact 90 rfl)
theorem Lw.kt_str_Ratio (L : Lw K mg) : PySem.W.kitOne K (.type "str") (.ref (He.ga K "Ratio")) = some false := of_decide_eq_true (L.c.fact 91 rfl)
theorem Lw.kt_NoneType_Ratio (L : Lw K mg) : PySem.W.kitOne K (.type "NoneType") (.ref (He.ga K "Ratio")) = some false := of_decide_eq_true (L.c.fact 92 rfl)
theorem Lw.kt_ZeroBottom_NoughtError (L : Lw K mg) : PySem.W.kitOne K (.ref (He.ga K "ZeroBottom")) (.ref (He.ga K "NoughtError")) = some true := of_decide_eq_true (L.c.fact 93 rfl)
theorem Lw.kt_ZeroBottom_BadText (L : Lw K mg) : PySem.W.kitOne K (.ref (He.ga K "ZeroBottom")) (.ref (He.ga K "BadText")) = some false := of_decide_eq_true (L.c.fact 95 rfl)
theorem Lw.kt_ZeroBottom_OutOfBounds (L : Lw K mg) : PySem.W.kitOne K (.ref (He.ga K "ZeroBottom")) (.ref (He.ga K "OutOfBounds")) = some false := of_decide_eq_true (L.c.fact 96 rfl)
theorem Lw.kt_ZeroBottom_ValueError (L : Lw K mg) : PySem.W.kitOne K (.ref (He.ga K "ZeroBottom")) (.type "ValueError") = some true := of_decide_eq_true (L.c.fact 97 rfl)
theorem Lw.kt_BadText_NoughtError (L : Lw K mg) : PySem.W.kitOne K (.ref (He.ga K "BadText")) (.ref (He.ga K "NoughtError")) = some true := of_decide_eq_true (L.c.fact 98 rfl)
theorem Lw.kt_BadText_ZeroBottom (L : Lw K mg) : PySem.W.kitOne K (.ref (He.ga K "BadText")) (.ref (He.ga K "ZeroBottom")) = some false := of_decide_eq_true (L.c.fact 99 rfl)
theorem Lw.kt_BadText_OutOfBounds (L : Lw K mg) : PySem.W.kitOne K (.ref (He.ga K "BadText")) (.ref (He.ga K "OutOfBounds")) = some false := of_decide_eq_true (L.c.fact 101 rfl)
theorem Lw.kt_OutOfBounds_NoughtError (L : Lw K mg) : PySem.W.kitOne K (.ref (He.ga K "OutOfBounds")) (.ref (He.ga K "NoughtError")) = some true := of_decide_eq_true (L.c.fact 103 rfl)
theorem Lw.kt_OutOfBounds_ZeroBottom (L : Lw K mg) : PySem.W.kitOne K (.ref (He.ga K "OutOfBounds")) (.ref (He.ga K "ZeroBottom")) = some false := of_decide_eq_true (L.c.fact 104 rfl)
theorem Lw.kt_OutOfBounds_BadText (L : Lw K mg) : PySem.W.kitOne K (.ref (He.ga K "OutOfBounds")) (.ref (He.ga K "BadText")) = some false := of_decide_eq_true (L.c.fact 105 rfl)
theorem Lw.d_RatioD_initD (L : Lw K mg) : ∃ fd, FunD K "__init__" "Ratio.__init__" (defArgs s_RatioD_initD) (defBody s_RatioD_initD) (defScope s_RatioD_initD) (df_RatioD_initD.dvs K) (df_RatioD_initD.kws K) (He.fAd K ("Ratio", some "__init__")) fd := L.c.def_ 0 (d := df_RatioD_initD) rfl
theorem Lw.d_RatioD_absD (L : Lw K mg) : ∃ fd, FunD K "__abs__" "Ratio.__abs__" (defArgs s_RatioD_absD) (defBody s_RatioD_absD) (defScope s_RatioD_absD) (df_RatioD_absD.dvs K) (df_RatioD_absD.kws K) (He.fAd K ("Ratio", some "__abs__")) fd := L.c.def_ 1 (d := df_RatioD_absD) rfl
theorem Lw.d_RatioD_negD (L : Lw K mg) : ∃ fd, FunD K "__neg__" "Ratio.__neg__" (defArgs s_RatioD_negD) (defBody s_RatioD_negD) (defScope s_RatioD_negD) (df_RatioD_negD.dvs K) (df_RatioD_negD.kws K) (He.fAd K ("Ratio", some "__neg__")) fd := L.c.def_ 2 (d := df_RatioD_negD) rfl
theorem Lw.d_Ratio_ceil (L : Lw K mg) : ∃ fd, FunD K "ceil" "Ratio.ceil" (defArgs s_Ratio_ceil) (defBody s_Ratio_ceil) (defScope s_Ratio_ceil) (df_Ratio_ceil.dvs K) (df_Ratio_ceil.kws K) (He.fAd K ("Ratio", some "ceil")) fd := L.c.def_ 3 (d := df_Ratio_ceil) rfl
theorem Lw.d_Ratio_floor (L : Lw K mg) : ∃ fd, FunD K "floor" "Ratio.floor" (defArgs s_Ratio_floor) (defBody s_Ratio_floor) (defScope s_Ratio_floor) (df_Ratio_floor.dvs K) (df_Ratio_floor.kws K) (He.fAd K ("Ratio", some "floor")) fd := L.c.def_ 4 (d := df_Ratio_floor) rfl
theorem Lw.d_Ratio_sign (L : Lw K mg) : ∃ fd, FunD K "sign" "Ratio.sign" (defArgs s_Ratio_sign) (defBody s_Ratio_sign) (defScope s_Ratio_sign) (df_Ratio_sign.dvs K) (df_Ratio_sign.kws K) (He.fAd K ("Ratio", some "sign")) fd := L.c.def_ 5 (d := df_Ratio_sign) rfl
theorem Lw.d_law_whole (L : Lw K mg) : ∃ fd, FunD K "_law_whole" "_law_whole" (defArgs s_law_whole) (defBody s_law_whole) (defScope s_law_whole) (df_law_whole.dvs K) (df_law_whole.kws K) (He.fAd K ("_law_whole", none)) fd := L.c.def_ 6 (d := df_law_whole) rfl
theorem Lw.d_law_is (L : Lw K mg) : ∃ fd, FunD K "_law_is" "_law_is" (defArgs s_law_is) (defBody s_law_is) (defScope s_law_is) (df_law_is.dvs K) (df_law_is.kws K) (He.fAd K ("_law_is", none)) fd := L.c.def_ 7 (d := df_law_is) rfl
theorem Lw.d_law_alone (L : Lw K mg) : ∃ fd, FunD K "_law_alone" "_law_alone" (defArgs s_law_alone) (defBody s_law_alone) (defScope s_law_alone) (df_law_alone.dvs K) (df_law_alone.kws K) (He.fAd K ("_law_alone", none)) fd := L.c.def_ 8 (d := df_law_alone) rfl
theorem Lw.d_law_cell (L : Lw K mg) : ∃ fd, FunD K "_law_cell" "_law_cell" (defArgs s_law_cell) (defBody s_law_cell) (defScope s_law_cell) (df_law_cell.dvs K) (df_law_cell.kws K) (He.fAd K ("_law_cell", none)) fd := L.c.def_ 9 (d := df_law_cell) rfl
theorem Lw.d_law_mod (L : Lw K mg) : ∃ fd, FunD K "_law_mod" "_law_mod" (defArgs s_law_mod) (defBody s_law_mod) (defScope s_law_mod) (df_law_mod.dvs K) (df_law_mod.kws K) (He.fAd K ("_law_mod", none)) fd := L.c.def_ 10 (d := df_law_mod) rfl
theorem Lw.d_law_ten (L : Lw K mg) : ∃ fd, FunD K "_law_ten" "_law_ten" (defArgs s_law_ten) (defBody s_law_ten) (defScope s_law_ten) (df_law_ten.dvs K) (df_law_ten.kws K) (He.fAd K ("_law_ten", none)) fd := L.c.def_ 11 (d := df_law_ten) rfl
theorem Lw.d_law_great (L : Lw K mg) : ∃ fd, FunD K "_law_great" "_law_great" (defArgs s_law_great) (defBody s_law_great) (defScope s_law_great) (df_law_great.dvs K) (df_law_great.kws K) (He.fAd K ("_law_great", none)) fd := L.c.def_ 12 (d := df_law_great) rfl
theorem Lw.d_law_signed (L : Lw K mg) : ∃ fd, FunD K "_law_signed" "_law_signed" (defArgs s_law_signed) (defBody s_law_signed) (defScope s_law_signed) (df_law_signed.dvs K) (df_law_signed.kws K) (He.fAd K ("_law_signed", none)) fd := L.c.def_ 13 (d := df_law_signed) rfl
theorem Lw.d_law_fraction (L : Lw K mg) : ∃ fd, FunD K "_law_fraction" "_law_fraction" (defArgs s_law_fraction) (defBody s_law_fraction) (defScope s_law_fraction) (df_law_fraction.dvs K) (df_law_fraction.kws K) (He.fAd K ("_law_fraction", none)) fd := L.c.def_ 14 (d := df_law_fraction) rfl
theorem Lw.d_law_low (L : Lw K mg) : ∃ fd, FunD K "_law_low" "_law_low" (defArgs s_law_low) (defBody s_law_low) (defScope s_law_low) (df_law_low.dvs K) (df_law_low.kws K) (He.fAd K ("_law_low", none)) fd := L.c.def_ 15 (d := df_law_low) rfl
theorem Lw.d_law_no_bottom (L : Lw K mg) : ∃ fd, FunD K "_law_no_bottom" "_law_no_bottom" (defArgs s_law_no_bottom) (defBody s_law_no_bottom) (defScope s_law_no_bottom) (df_law_no_bottom.dvs K) (df_law_no_bottom.kws K) (He.fAd K ("_law_no_bottom", none)) fd := L.c.def_ 16 (d := df_law_no_bottom) rfl
theorem Lw.d_OutOfBoundsD_initD (L : Lw K mg) : ∃ fd, FunD K "__init__" "OutOfBounds.__init__" (defArgs s_OutOfBoundsD_initD) (defBody s_OutOfBoundsD_initD) (defScope s_OutOfBoundsD_initD) (df_OutOfBoundsD_initD.dvs K) (df_OutOfBoundsD_initD.kws K) (He.fAd K ("OutOfBounds", some "__init__")) fd := L.c.def_ 17 (d := df_OutOfBoundsD_initD) rfl
theorem Lw.d_check_number (L : Lw K mg) : ∃ fd, FunD K "check_number" "check_number" (defArgs s_check_number) (defBody s_check_number) (defScope s_check_number) (df_check_number.dvs K) (df_check_number.kws K) (He.fAd K ("check_number", none)) fd := L.c.def_ 18 (d := df_check_number) rfl
theorem Lw.d_whole_power (L : Lw K mg) : ∃ fd, FunD K "whole_power" "whole_power" (defArgs s_whole_power) (defBody s_whole_power) (defScope s_whole_power) (df_whole_power.dvs K) (df_whole_power.kws K) (He.fAd K ("whole_power", none)) fd := L.c.def_ 19 (d := df_whole_power) rfl
theorem Lw.d_ratio_power (L : Lw K mg) : ∃ fd, FunD K "ratio_power" "ratio_power" (defArgs s_ratio_power) (defBody s_ratio_power) (defScope s_ratio_power) (df_ratio_power.dvs K) (df_ratio_power.kws K) (He.fAd K ("ratio_power", none)) fd := L.c.def_ 20 (d := df_ratio_power) rfl
theorem Lw.d_Ratio_raised (L : Lw K mg) : ∃ fd, FunD K "raised" "Ratio.raised" (defArgs s_Ratio_raised) (defBody s_Ratio_raised) (defScope s_Ratio_raised) (df_Ratio_raised.dvs K) (df_Ratio_raised.kws K) (He.fAd K ("Ratio", some "raised")) fd := L.c.def_ 21 (d := df_Ratio_raised) rfl
theorem Lw.d_law_no_power (L : Lw K mg) : ∃ fd, FunD K "_law_no_power" "_law_no_power" (defArgs s_law_no_power) (defBody s_law_no_power) (defScope s_law_no_power) (df_law_no_power.dvs K) (df_law_no_power.kws K) (He.fAd K ("_law_no_power", none)) fd := L.c.def_ 22 (d := df_law_no_power) rfl
theorem Lw.d_law_other (L : Lw K mg) : ∃ fd, FunD K "_law_other" "_law_other" (defArgs s_law_other) (defBody s_law_other) (defScope s_law_other) (df_law_other.dvs K) (df_law_other.kws K) (He.fAd K ("_law_other", none)) fd := L.c.def_ 23 (d := df_law_other) rfl
theorem Lw.d_law_powers (L : Lw K mg) : ∃ fd, FunD K "_law_powers" "_law_powers" (defArgs s_law_powers) (defBody s_law_powers) (defScope s_law_powers) (df_law_powers.dvs K) (df_law_powers.kws K) (He.fAd K ("_law_powers", none)) fd := L.c.def_ 24 (d := df_law_powers) rfl
theorem Lw.d_Ratio_divided (L : Lw K mg) : ∃ fd, FunD K "divided" "Ratio.divided" (defArgs s_Ratio_divided) (defBody s_Ratio_divided) (defScope s_Ratio_divided) (df_Ratio_divided.dvs K) (df_Ratio_divided.kws K) (He.fAd K ("Ratio", some "divided")) fd := L.c.def_ 25 (d := df_Ratio_divided) rfl
theorem Lw.d_law_quotient (L : Lw K mg) : ∃ fd, FunD K "_law_quotient" "_law_quotient" (defArgs s_law_quotient) (defBody s_law_quotient) (defScope s_law_quotient) (df_law_quotient.dvs K) (df_law_quotient.kws K) (He.fAd K ("_law_quotient", none)) fd := L.c.def_ 26 (d := df_law_quotient) rfl
theorem Lw.d_BadTextD_initD (L : Lw K mg) : ∃ fd, FunD K "__init__" "BadText.__init__" (defArgs s_BadTextD_initD) (defBody s_BadTextD_initD) (defScope s_BadTextD_initD) (df_BadTextD_initD.dvs K) (df_BadTextD_initD.kws K) (He.fAd K ("BadText", some "__init__")) fd := L.c.def_ 27 (d := df_BadTextD_initD) rfl
theorem Lw.d_read_whole (L : Lw K mg) : ∃ fd, FunD K "read_whole" "read_whole" (defArgs s_read_whole) (defBody s_read_whole) (defScope s_read_whole) (df_read_whole.dvs K) (df_read_whole.kws K) (He.fAd K ("read_whole", none)) fd := L.c.def_ 28 (d := df_read_whole) rfl
theorem Lw.d_read_fraction (L : Lw K mg) : ∃ fd, FunD K "read_fraction" "read_fraction" (defArgs s_read_fraction) (defBody s_read_fraction) (defScope s_read_fraction) (df_read_fraction.dvs K) (df_read_fraction.kws K) (He.fAd K ("read_fraction", none)) fd := L.c.def_ 29 (d := df_read_fraction) rfl
theorem Lw.d_Ratio_read (L : Lw K mg) : ∃ fd, FunD K "read" "Ratio.read" (defArgs s_Ratio_read) (defBody s_Ratio_read) (defScope s_Ratio_read) (df_Ratio_read.dvs K) (df_Ratio_read.kws K) (He5.wf K (He.ga K "Ratio") "staticmethod" "read") fd := L.c.def_ 30 (d := df_Ratio_read) rfl
theorem Lw.d_law_refused (L : Lw K mg) : ∃ fd, FunD K "_law_refused" "_law_refused" (defArgs s_law_refused) (defBody s_law_refused) (defScope s_law_refused) (df_law_refused.dvs K) (df_law_refused.kws K) (He.fAd K ("_law_refused", none)) fd := L.c.def_ 31 (d := df_law_refused) rfl
theorem Lw.d_RatioD_addD (L : Lw K mg) : ∃ fd, FunD K "__add__" "Ratio.__add__" (defArgs s_RatioD_addD) (defBody s_RatioD_addD) (defScope s_RatioD_addD) (df_RatioD_addD.dvs K) (df_RatioD_addD.kws K) (He.fAd K ("Ratio", some "__add__")) fd := L.c.def_ 32 (d := df_RatioD_addD) rfl
theorem Lw.d_RatioD_eqD (L : Lw K mg) : ∃ fd, FunD K "__eq__" "Ratio.__eq__" (defArgs s_RatioD_eqD) (defBody s_RatioD_eqD) (defScope s_RatioD_eqD) (df_RatioD_eqD.dvs K) (df_RatioD_eqD.kws K) (He.fAd K ("Ratio", some "__eq__")) fd := L.c.def_ 33 (d := df_RatioD_eqD) rfl
theorem Lw.d_RatioD_mulD (L : Lw K mg) : ∃ fd, FunD K "__mul__" "Ratio.__mul__" (defArgs s_RatioD_mulD) (defBody s_RatioD_mulD) (defScope s_RatioD_mulD) (df_RatioD_mulD.dvs K) (df_RatioD_mulD.kws K) (He.fAd K ("Ratio", some "__mul__")) fd := L.c.def_ 34 (d := df_RatioD_mulD) rfl
theorem Lw.d_RatioD_subD (L : Lw K mg) : ∃ fd, FunD K "__sub__" "Ratio.__sub__" (defArgs s_RatioD_subD) (defBody s_RatioD_subD) (defScope s_RatioD_subD) (df_RatioD_subD.dvs K) (df_RatioD_subD.kws K) (He.fAd K ("Ratio", some "__sub__")) fd := L.c.def_ 35 (d := df_RatioD_subD) rfl
theorem Lw.d_Ratio_compare (L : Lw K mg) : ∃ fd, FunD K "compare" "Ratio.compare" (defArgs s_Ratio_compare) (defBody s_Ratio_compare) (defScope s_Ratio_compare) (df_Ratio_compare.dvs K) (df_Ratio_compare.kws K) (He.fAd K ("Ratio", some "compare")) fd := L.c.def_ 36 (d := df_Ratio_compare) rfl
theorem Lw.d_law_flag (L : Lw K mg) : ∃ fd, FunD K "_law_flag" "_law_flag" (defArgs s_law_flag) (defBody s_law_flag) (defScope s_law_flag) (df_law_flag.dvs K) (df_law_flag.kws K) (He.fAd K ("_law_flag", none)) fd := L.c.def_ 37 (d := df_law_flag) rfl
theorem Lw.d_law_sums (L : Lw K mg) : ∃ fd, FunD K "_law_sums" "_law_sums" (defArgs s_law_sums) (defBody s_law_sums) (defScope s_law_sums) (df_law_sums.dvs K) (df_law_sums.kws K) (He.fAd K ("_law_sums", none)) fd := L.c.def_ 38 (d := df_law_sums) rfl
theorem Lw.d_law_long (L : Lw K mg) : ∃ fd, FunD K "_law_long" "_law_long" (defArgs s_law_long) (defBody s_law_long) (defScope s_law_long) (df_law_long.dvs K) (df_law_long.kws K) (He.fAd K ("_law_long", none)) fd := L.c.def_ 39 (d := df_law_long) rfl
theorem Lw.d_law_text (L : Lw K mg) : ∃ fd, FunD K "_law_text" "_law_text" (defArgs s_law_text) (defBody s_law_text) (defScope s_law_text) (df_law_text.dvs K) (df_law_text.kws K) (He.fAd K ("_law_text", none)) fd := L.c.def_ 40 (d := df_law_text) rfl
theorem Lw.d_law_read (L : Lw K mg) : ∃ fd, FunD K "_law_read" "_law_read" (defArgs s_law_read) (defBody s_law_read) (defScope s_law_read) (df_law_read.dvs K) (df_law_read.kws K) (He.fAd K ("_law_read", none)) fd := L.c.def_ 41 (d := df_law_read) rfl
theorem Lw.d_Ratio_text (L : Lw K mg) : ∃ fd, FunD K "text" "Ratio.text" (defArgs s_Ratio_text) (defBody s_Ratio_text) (defScope s_Ratio_text) (df_Ratio_text.dvs K) (df_Ratio_text.kws K) (He.fAd K ("Ratio", some "text")) fd := L.c.def_ 42 (d := df_Ratio_text) rfl
theorem Lw.d_law_written (L : Lw K mg) : ∃ fd, FunD K "_law_written" "_law_written" (defArgs s_law_written) (defBody s_law_written) (defScope s_law_written) (df_law_written.dvs K) (df_law_written.kws K) (He.fAd K ("_law_written", none)) fd := L.c.def_ 43 (d := df_law_written) rfl
theorem Lw.d_law_wrong (L : Lw K mg) : ∃ fd, FunD K "_law_wrong" "_law_wrong" (defArgs s_law_wrong) (defBody s_law_wrong) (defScope s_law_wrong) (df_law_wrong.dvs K) (df_law_wrong.kws K) (He.fAd K ("_law_wrong", none)) fd := L.c.def_ 44 (d := df_law_wrong) rfl
theorem Lw.d_law_texts (L : Lw K mg) : ∃ fd, FunD K "_law_texts" "_law_texts" (defArgs s_law_texts) (defBody s_law_texts) (defScope s_law_texts) (df_law_texts.dvs K) (df_law_texts.kws K) (He.fAd K ("_law_texts", none)) fd := L.c.def_ 45 (d := df_law_texts) rfl
theorem Lw.d_law_unlike (L : Lw K mg) : ∃ fd, FunD K "_law_unlike" "_law_unlike" (defArgs s_law_unlike) (defBody s_law_unlike) (defScope s_law_unlike) (df_law_unlike.dvs K) (df_law_unlike.kws K) (He.fAd K ("_law_unlike", none)) fd := L.c.def_ 46 (d := df_law_unlike) rfl
theorem Lw.d_law (L : Lw K mg) : ∃ fd, FunD K "law" "law" (defArgs s_law) (defBody s_law) (defScope s_law) (df_law.dvs K) (df_law.kws K) (He.fAd K ("law", none)) fd := L.c.def_ 47 (d := df_law) rfl
end
end T
set_option maxHeartbeats 0
namespace T
open PySem PySem.W PySem.Calls PySem.Spec PyProof.Rows L2 Z
abbrev R : PySem.W.OpenRow := PySem.W.OpenLaw.row PySem.Challenge.rw_belownought_k00_ratio_rules
abbrev hk : PySem.W.Hook := hookZ3 6 fb fn
def ob (st : PySem.W.SharedT) : SeenZ := seenG3 6 fb fn (HandSHeadRun.getT st)
theorem ob_eq (st : PySem.W.SharedT) : ob st = hk.obs st.abs := seenG3_eq (HandSHeadRun.getT_eq st)
def loose : List Str := (["__name__", "NoughtError", "ZeroBottom", "BadText", "OutOfBounds", "check_number", "Ratio", "whole_power", "ratio_power", "read_whole", "read_fraction", "_law_cell", "_law_mod", "_law_signed", "_law_ten", "_law_great", "_law_low", "_law_fraction", "_law_other", "_law_whole", "_law_flag", "_law_is", "_law_sums", "_law_quotient", "_law_no_bottom", "_law_alone", "_law_powers", "_law_no_power", "_law_text", "_law_refused"] : List Str) ++ (["_law_read", "_law_written", "_law_wrong", "_law_long", "_law_unlike", "_law_texts"] : List Str)
theorem runA (w : World) : (HandSHeadRun.wholeF (fun p => HandSHeadRun.stepQ (HandSHeadRun.denQ HandSHeadRun.tabQ) p w) HandSHeadRun.fenceQ 12000 R.prog).map (fun x => HandSHeadRun.looksF R.prog x.1.heap x.2.abs) = some true := by
  kernel_rfl
theorem runB (w : World) : (HandSHeadRun.wholeF (fun p => HandSHeadRun.stepQ (HandSHeadRun.denQ HandSHeadRun.tabQ) p w) HandSHeadRun.fenceQ 12000 R.prog).map (fun x => HandSHeadRun.seenQ (PySem.W.view R.prog [0, 39]) loose (importedModules R.prog.main.body) (fun s => PySem.W.xlAt (PySem.W.view R.prog [0, 39]) [] s && PySem.W.recOk R.toRowW.records s) x.2.abs) = some (PySem.W.openGood (PySem.W.view R.prog [0, 39]) loose) := by
  kernel_rfl
def fb0 : List Chk := [cGlo "BadText", cGlo "NoughtError", cGlo "OutOfBounds", cGlo "Ratio", cGlo "ZeroBottom", cGlo "_law_alone", cGlo "_law_cell", cGlo "_law_flag", cGlo "_law_fraction", cGlo "_law_great", cGlo "_law_is", cGlo "_law_long", cGlo "_law_low", cGlo "_law_mod", cGlo "_law_no_bottom", cGlo "_law_no_power", cGlo "_law_other", cGlo "_law_powers", cGlo "_law_quotient", cGlo "_law_read", cGlo "_law_refused", cGlo "_law_signed", cGlo "_law_sums", cGlo "_law_ten", cGlo "_law_text", cGlo "_law_texts", cGlo "_law_unlike", cGlo "_law_whole", cGlo "_law_written", cGlo "_law_wrong", cGlo "check_number", cGlo "law", cGlo "ratio_power", cGlo "read_fraction", cGlo "read_whole", cGlo "whole_power", cFree "ValueError", cFree "abs", cFree "all", cFree "bool", cVal "gcd" "math.gcd", cFree "int", cFree "isinstance", cFree "len", cFree "list", cFree "range", cFree "staticmethod", cFree "str", cCls "Ratio", cIns "Ratio", cMk "Ratio", cSelf "Ratio", cNo "Ratio" "bottom", cNo "Ratio" "top"]
def fn0 : List He5.DefA := [df_RatioD_initD, df_RatioD_absD, df_RatioD_negD, df_Ratio_ceil, df_Ratio_floor, df_Ratio_sign, df_law_whole, df_law_is, df_law_alone, df_law_cell, df_law_mod, df_law_ten, df_law_great, df_law_signed, df_law_fraction, df_law_low, df_law_no_bottom, df_OutOfBoundsD_initD, df_check_number, df_whole_power, df_ratio_power, df_Ratio_raised, df_law_no_power, df_law_other]
theorem runC0 (w : World) : (HandSHeadRun.wholeF (fun p => HandSHeadRun.stepQ (HandSHeadRun.denQ HandSHeadRun.tabQ) p w) HandSHeadRun.fenceQ 12000 R.prog).map (fun x => seenG3 6 fb0 fn0 (HandSHeadRun.getT x.2)) = some (dueK2 fn0) := by
  kernel_rfl
def fb1 : List Chk := [cMeth "Ratio" "__abs__", cMeth "Ratio" "__neg__", cMeth "Ratio" "ceil", cMeth "Ratio" "floor", cMeth "Ratio" "sign", cMeth "Ratio" "raised", cMeth "Ratio" "divided", cRead "Ratio", cStat "Ratio" "read", cMeth "Ratio" "__add__", cMeth "Ratio" "__eq__", cMeth "Ratio" "__mul__", cMeth "Ratio" "__sub__", cMeth "Ratio" "compare", cMeth "Ratio" "text", cOex "BadText", cNo "BadText" "given", cOex "OutOfBounds", cNo "OutOfBounds" "value", cExc0 "ZeroBottom", cExm "BadText" "BadText" true, cExm "BadText" "OutOfBounds" false, cExm "BadText" "ZeroBottom" false, cExm "OutOfBounds" "BadText" false, cExm "OutOfBounds" "OutOfBounds" true, cExm "OutOfBounds" "ZeroBottom" false, cExm "ZeroBottom" "BadText" false, cExm "ZeroBottom" "OutOfBounds" false, cExm "ZeroBottom" "ZeroBottom" true, cDig, cExcC "BadText", cExcC "OutOfBounds", cExcC "ZeroBottom", cKit "Ratio" "Ratio" true, cKitT "int" "Ratio" false, cKitT "tuple" "Ratio" false, cKitT "list" "Ratio" false, cKitT "str" "Ratio" false, cKitT "NoneType" "Ratio" false, cKit "ZeroBottom" "NoughtError" true, cKit "ZeroBottom" "ZeroBottom" true, cKit "ZeroBottom" "BadText" false, cKit "ZeroBottom" "OutOfBounds" false, cKitU "ZeroBottom" "ValueError" true, cKit "BadText" "NoughtError" true, cKit "BadText" "ZeroBottom" false, cKit "BadText" "BadText" true, cKit "BadText" "OutOfBounds" false, cKitU "BadText" "ValueError" true, cKit "OutOfBounds" "NoughtError" true, cKit "OutOfBounds" "ZeroBottom" false, cKit "OutOfBounds" "BadText" false, cKit "OutOfBounds" "OutOfBounds" true, cKitU "OutOfBounds" "ValueError" true]
def fn1 : List He5.DefA := [df_law_powers, df_Ratio_divided, df_law_quotient, df_BadTextD_initD, df_read_whole, df_read_fraction, df_Ratio_read, df_law_refused, df_RatioD_addD, df_RatioD_eqD, df_RatioD_mulD, df_RatioD_subD, df_Ratio_compare, df_law_flag, df_law_sums, df_law_long, df_law_text, df_law_read, df_Ratio_text, df_law_written, df_law_wrong, df_law_texts, df_law_unlike, df_law]
theorem runC1 (w : World) : (HandSHeadRun.wholeF (fun p => HandSHeadRun.stepQ (HandSHeadRun.denQ HandSHeadRun.tabQ) p w) HandSHeadRun.fenceQ 12000 R.prog).map (fun x => seenG3 6 fb1 fn1 (HandSHeadRun.getT x.2)) = some (dueK2 fn1) := by
  kernel_rfl
theorem runC (w : World) : (HandSHeadRun.wholeF (fun p => HandSHeadRun.stepQ (HandSHeadRun.denQ HandSHeadRun.tabQ) p w) HandSHeadRun.fenceQ 12000 R.prog).map (fun x => ob x.2) = some (dueK2 fn) := by
  have e1 : fb = fb0 ++ (fb1) := rfl
  have e2 : fn = fn0 ++ (fn1) := rfl
  unfold ob
  rw [e1, e2]
  exact (seen_both3 (runC0 w) (runC1 w))
theorem run (w : World) : HandSHeadRun.RunEqI R (PySem.W.view R.prog [0, 39]) hk ob 12000 loose w := map_three (runA w) (runB w) (runC w)
end T
set_option maxHeartbeats 4000000
namespace T
open PySem PySem.Spec PyProof.Rows L2 Z
local macro_rules | `(tactic| walk_at "up") => `(tactic| first
  | assumption
  | (refine' IsR.mono (by assumption) ?zup; case zup => walk_at "up")
  | (refine' IsE.mono (by assumption) ?zup; case zup => walk_at "up")
  | (refine' Same.at (by assumption) ?zup; case zup => walk_at "up")
  | (refine' SqL.of ?zup; case zup => walk_at "up")
  | (refine' L2.Same.seq (by assumption) ?zup; case zup => walk_at "up"))
local macro_rules | `(tactic| walk_at "z") => `(tactic| first
  | ((with_reducible refine' z_var ?zvh ?_); (case zvh => exact rfl))
  | with_reducible refine z_c ?_
  | with_reducible refine z_cons ?_
  | with_reducible refine z_nil ?_
  | with_reducible refine z_op ?_
  | with_reducible refine z_nx ?_
  | with_reducible refine z_seq ?_
  | with_reducible refine z_asg ?_
  | with_reducible refine z_asgG ?_
  | with_reducible refine z_call ?_
  | with_reducible refine z_sq0 ?_
  | with_reducible refine z_sq1 ?_
  | with_reducible refine z_ifS ?_
  | with_reducible refine z_test ?_
  | with_reducible refine z_tb ?_
  | with_reducible refine z_bl ?_
  | with_reducible refine z_blI ?_
  | with_reducible refine z_ret ?_
  | with_reducible refine z_rt ?_
  | with_reducible refine z_T ?_
  | with_reducible refine z_F ?_
  | with_reducible refine z_add ?_
  | with_reducible refine z_sub ?_
  | with_reducible refine z_neg ?_
  | with_reducible refine z_un ?_
  | with_reducible refine z_eqI ?_
  | with_reducible refine z_neI ?_
  | with_reducible refine z_lt ?_
  | with_reducible refine z_le ?_
  | with_reducible refine z_gt ?_
  | with_reducible refine z_ge ?_
  | with_reducible refine z_not ?_
  | with_reducible refine z_and ?_
  | with_reducible refine z_or ?_
  | with_reducible refine z_andV ?_
  | with_reducible refine z_orV ?_
  | with_reducible refine z_notV ?_
  | with_reducible refine z_if ?_
  | with_reducible refine z_cb ?_
  | with_reducible refine z_int1 ?_
  | with_reducible refine z_intb ?_
  | with_reducible refine z_abs ?_
  | with_reducible refine z_gcd ?_
  | with_reducible refine z_isi_ii ?_
  | with_reducible refine z_isi_ib ?_
  | with_reducible refine z_next ?_
  | with_reducible refine z_drop ?_
  | with_reducible refine z_par ?_
  | with_reducible refine z_par2 ?_
  | with_reducible refine z_tupN ?_
  | with_reducible refine z_lstN ?_
  | ((with_reducible refine' z_nt ?zl1 ?_); (case zl1 => exact Nat.le_of_ble_eq_true rfl); intro p H' hp hs he)
  | ((with_reducible refine' z_gtup ?zl1 ?zl2 ?_); (case zl1 => walk_at "up"); (case zl2 => exact rfl))
  | with_reducible refine z_bk ?_
  | with_reducible refine z_ct ?_
  | with_reducible refine z_break ?_
  | with_reducible refine z_cont ?_
  | with_reducible refine z_retN ?_
  | with_reducible refine z_nn ?_
  | with_reducible refine z_mk ?_
  | with_reducible refine z_gn ?_
  | with_reducible refine z_gcons ?_
  | with_reducible refine z_gnil ?_
  | with_reducible refine z_mt ?_
  | with_reducible refine z_mko ?_
  | with_reducible refine z_for2 ?_
  | with_reducible refine z_ownI ?_
  | ((with_reducible refine' z_lenL ?zl1 ?_); (case zl1 => walk_at "up"))
  | ((with_reducible refine' z_ixT ?zl1 ?zl2 ?_); (case zl1 => walk_at "up"); (case zl2 => exact rfl))
  | ((with_reducible refine' z_mulL ?zl1 ?zl2 ?_); (case zl1 => omega); (case zl2 => omega))
  | ((with_reducible refine' z_mulR ?zl1 ?zl2 ?_); (case zl1 => omega); (case zl2 => omega))
  | ((with_reducible refine' z_divS ?zl1 ?zl2 ?_); (case zl1 => omega); (case zl2 => omega))
  | ((with_reducible refine' z_mulW ?zl1 ?zl2 ?zl3 ?zl4 ?_); (case zl1 => omega); (case zl2 => omega); (case zl3 => omega); (case zl4 => omega))
  | ((with_reducible refine' z_divW ?zl1 ?zl2 ?_); (case zl1 => omega); (case zl2 => omega)))
local macro_rules | `(tactic| walk_at "zz") => `(tactic| repeat (walk_at "z"))
local macro_rules | `(tactic| walk_at "z") => `(tactic| ((with_reducible refine' z_fldt ?zc1 ?zc2 ?zl1 ?zl2 ?_); (case zc1 => exact Lw.cl_Ratio (by assumption)); (case zc2 => exact Lw.na_Ratio_top (by assumption)); (case zl1 => exact rfl); (case zl2 => walk_at "up")))
local macro_rules | `(tactic| walk_at "z") => `(tactic| ((with_reducible refine' z_fldb ?zc1 ?zc2 ?zl1 ?zl2 ?_); (case zc1 => exact Lw.cl_Ratio (by assumption)); (case zc2 => exact Lw.na_Ratio_bottom (by assumption)); (case zl1 => exact rfl); (case zl2 => walk_at "up")))
section
variable {P : Program} {w : World} {K : Frag} {mg : Str → Option Value} {base : Heap}
theorem ok_RatioD_initD (L : Lw K mg) {fd : FuncData} (F : FunD K "__init__" "Ratio.__init__" (defArgs s_RatioD_initD) (defBody s_RatioD_initD) (defScope s_RatioD_initD) (df_RatioD_initD.dvs K) (df_RatioD_initD.kws K) (He.fAd K ("Ratio", some "__init__")) fd) : FnOk P w K mg base (L2N.CX P w) 1 (He.fAd K ("Ratio", some "__init__")) fd (["self", "top", "bottom"] : List Str) (sp3 (fs_rinit K)) := by
  refine FunD.ok F sc_RatioD_initD len3 (fun cdv A outer s H vs Q E hr h => ?_)
  obtain ⟨a, b, c, rfl, h⟩ := h
  refine ⟨_, (pss_cons (ps_if (pt_cmpR op_eq (pv 2) pe_int (nomark _)) (pss_one (L2N.ps_raise rfl (L2N.takes_of rfl rfl rfl rfl) (pmk_x0 PySem.F.excBase_ValueError L.xi_ZeroBottom L.g_ZeroBottom L.kp_ZeroBottom (raises_own L.xb_ZeroBottom L.xt_ZeroBottom)))) pss_nil)
    (pss_cons (ps_set (i := 3) sc_RatioD_initD.nd rfl (by first | exact Or.inl rfl | exact Or.inr rfl) (pe_callBfun cr_gcd rfl L.v_gcd (pa_cons (pv 1) (pa_cons (pv 2) pa_nil))))
    (pss_cons (ps_if (pt_cmpR o_lt (pv 2) pe_int (nomark _)) (pss_one (ps_set (i := 3) sc_RatioD_initD.nd rfl (by first | exact Or.inl rfl | exact Or.inr rfl) (pe_un o_neg (pv 3)))) pss_nil)
    (pss_cons (ps_fld (pv 0) (pe_op o_div (pv 1) (pv 3)) rfl)
    (pss_one (ps_fld (pv 0) (pe_op o_div (pv 2) (pv 3)) rfl)))))), ?_⟩
  obtain ⟨x, dx, H0, n, d, rfl, rfl, rfl, rfl, hx, hdx, ne, hb, k, kz⟩ := h
  walk_at "zz"
  have sm : Same H0 (upd (upd H0 dx (.own x)) x (.ins (He.ga K "Ratio") dx [])) := fun y o hy => by
    rw [upd_ne (ne_of_none hy hx), upd_ne (ne_of_none hy hdx)]
    exact hy
  refine z_d2 (fun c => kz c _ sm) (fun c => ?_)
  have hc := rc_bits (n := n) c hb
  have hc0 := rc_ne (n := n) c
  walk_at "zz"
  refine z_d2 (fun c2 => ?_) (fun c2 => ?_)
  · walk_at "zz"
    have e : rc n d = -((Int.gcd n d : Nat) : Int) := by unfold rc; rw [if_pos c2]
    rw [e] at hc hc0
    refine run_rinit (a := .int (rt n d)) (b := .int (rb n d)) L.cl_Ratio L.na_Ratio_top L.na_Ratio_bottom hx hdx ne rfl (fun H1 Q1 q1 => ?_) (fun H1 Q1 q1 => ?_) (fun H' e1 e2 => k c H' e1 ⟨dx, e2⟩)
    · walk_at "zz"
      refine z_divN hc0 hc (by decide) (by decide) ?_
      unfold rt at q1
      rw [e] at q1
      exact q1
    · walk_at "zz"
      refine z_divN hc0 hc (by decide) (by decide) ?_
      unfold rb at q1
      rw [e] at q1
      exact q1
  · walk_at "zz"
    have e : rc n d = ((Int.gcd n d : Nat) : Int) := by unfold rc; rw [if_neg c2]
    rw [e] at hc hc0
    refine run_rinit (a := .int (rt n d)) (b := .int (rb n d)) L.cl_Ratio L.na_Ratio_top L.na_Ratio_bottom hx hdx ne rfl (fun H1 Q1 q1 => ?_) (fun H1 Q1 q1 => ?_) (fun H' e1 e2 => k c H' e1 ⟨dx, e2⟩)
    · walk_at "zz"
      refine z_divN hc0 hc (by decide) (by decide) ?_
      unfold rt at q1
      rw [e] at q1
      exact q1
    · walk_at "zz"
      refine z_divN hc0 hc (by decide) (by decide) ?_
      unfold rb at q1
      rw [e] at q1
      exact q1
theorem c_RatioD_initD (L : Lw K mg) : Mak P w K mg base 1 "Ratio" (He.ga K "Ratio") (sp3 (fs_rinit K)) [] := by
  obtain ⟨fd, F⟩ := L.d_RatioD_initD
  obtain ⟨ds, vds, bds⟩ := F.binds1 (ps := ["self", "top", "bottom"]) 3 1 (by intro z; cases z) rfl (fun _ _ _ _ _ _ _ us its hl hi => match us, its, hl, hi with | [_, _, _], [_], _, _ => ⟨_, rfl, rfl⟩)
  exact ⟨⟨_, fd, ["self", "top", "bottom"], ds, L.mk_Ratio, ok_RatioD_initD L F, L.g_Ratio, bds, vds⟩⟩
theorem c1_RatioD_initD (L : Lw K mg) : Mak P w K mg base 1 "Ratio" (He.ga K "Ratio") (sp3 (fs_rinit K)) [V.int 1] := by
  obtain ⟨fd, F⟩ := L.d_RatioD_initD
  obtain ⟨ds, vds, bds⟩ := F.binds1 (ps := ["self", "top", "bottom"]) 2 0 (by intro z; cases z) rfl (fun _ _ _ _ _ _ _ us its hl hi => match us, its, hl, hi with | [_, _], [_], _, _ => ⟨_, rfl, rfl⟩)
  exact ⟨⟨_, fd, ["self", "top", "bottom"], ds, L.mk_Ratio, ok_RatioD_initD L F, L.g_Ratio, bds, vds⟩⟩
end
end T
set_option maxHeartbeats 4000000
namespace T
open PySem PySem.Spec PyProof.Rows L2 Z
theorem bpow {B : Nat} {b : Int} (h : Bits B b) (j : Nat) : Bits (B * j + 1) (b ^ j) := by
  unfold Bits at *
  rw [Int.natAbs_pow]
  refine Nat.lt_of_le_of_lt (Nat.pow_le_pow_left (Nat.le_of_lt h) j) ?_
  rw [← Nat.pow_mul, Nat.pow_succ]
  have := Nat.two_pow_pos (B * j)
  omega
theorem nbits {n : Nat} : n < 2 ^ Builtin.Int.intBits (n : Int) := by
  unfold Builtin.Int.intBits
  split
  · rename_i h
    have : (n : Int) = 0 := by simpa using h
    have : n = 0 := by omega
    rw [this]
    decide
  · exact Nat.lt_log2_self
theorem nbits_le {n : Nat} {k : Nat} (h : n < 2 ^ k) : Builtin.Int.intBits (n : Int) ≤ k := PyProof.Rows.intBits_le (by simpa using h)
theorem pow_bit {b : Int} {q : Nat} : b ^ (q / 2) * b ^ (q / 2) = b ^ (q - q % 2) ∧ (q % 2 = 1 → b ^ (q - q % 2) * b = b ^ q) := by
  constructor
  · rw [← Int.pow_add]
    congr 1
    omega
  · intro h
    rw [← Int.pow_succ]
    congr 1
    omega
theorem half_div {n d : Nat} : n / (2 * d) = n / d / 2 := by rw [Nat.mul_comm, Nat.div_div_eq_div_mul]
theorem z_r2I {i j : Int} {H : Hp} {Q : VK} (q : zRep (.int i) (.int j) H Q) : zRep2 (.int i) (.int j) H Q := .inl q
theorem z_repU0 {i j : Int} {a b : Nat} {H : Hp} {Q : VK} (ha : Bits a i) (hb : Bits b j) (h : a + b ≤ 900000) (q : Q (.int (i * j)) H) : zRep (.int i) (.int j) H Q := z_repB (ha.up (Nat.le_succ a)) (hb.up (Nat.le_succ b)) (Nat.succ_pos a) (Nat.succ_pos b) (by omega) q
theorem rt_neg {n d : Int} (h : d < 0) : rt n d = rt (-n) (-d) ∧ rb n d = rb (-n) (-d) := by
  have g : Int.gcd (-n) (-d) = Int.gcd n d := by rw [Int.gcd_neg, Int.neg_gcd]
  have e1 : rc n d = -((Int.gcd n d : Nat) : Int) := by unfold rc; rw [if_pos h]
  have e2 : rc (-n) (-d) = ((Int.gcd n d : Nat) : Int) := by unfold rc; rw [if_neg (by omega), g]
  unfold rt rb
  rw [e1, e2]
  have g0 : 0 < Int.gcd n d := Int.gcd_pos_of_ne_zero_right n (by omega)
  constructor
  · rw [Int.fdiv_eq_ediv_of_nonneg (-n) (by omega)]
    rw [show n.fdiv (-((Int.gcd n d : Nat) : Int)) = (-n).fdiv ((Int.gcd n d : Nat) : Int) from by
      have := Int.neg_fdiv_neg (-n) ((Int.gcd n d : Nat) : Int)
      rw [Int.neg_neg] at this
      exact this]
    rw [Int.fdiv_eq_ediv_of_nonneg (-n) (by omega)]
  · rw [Int.fdiv_eq_ediv_of_nonneg (-d) (by omega)]
    rw [show d.fdiv (-((Int.gcd n d : Nat) : Int)) = (-d).fdiv ((Int.gcd n d : Nat) : Int) from by
      have := Int.neg_fdiv_neg (-d) ((Int.gcd n d : Nat) : Int)
      rw [Int.neg_neg] at this
      exact this]
    rw [Int.fdiv_eq_ediv_of_nonneg (-d) (by omega)]
theorem rt_specN {n d : Int} (h : d ≠ 0) : 0 < rb n d ∧ Int.gcd (rt n d) (rb n d) = 1 ∧ rt n d * d = n * rb n d := by
  by_cases p : 0 < d
  · exact rt_spec p
  · obtain ⟨e1, e2⟩ := rt_neg (n := n) (d := d) (by omega)
    rw [e1, e2]
    obtain ⟨a, b, c⟩ := rt_spec (n := -n) (d := -d) (by omega)
    refine ⟨a, b, ?_⟩
    grind
theorem low_uniq {t b t' b' : Int} (h : 0 < b) (h' : 0 < b') (g : Int.gcd t b = 1) (g' : Int.gcd t' b' = 1) (e : t * b' = t' * b) : t = t' ∧ b = b' := by
  have k : ∀ t b t' b' : Int, 0 < b → 0 < b' → Int.gcd t b = 1 → t * b' = t' * b → b ∣ b' := by
    intro t b t' b' h h' g e
    have d : b.natAbs ∣ t.natAbs * b'.natAbs := by
      rw [← Int.natAbs_mul, e, Int.natAbs_mul]
      exact Nat.dvd_mul_left _ _
    exact Int.natAbs_dvd_natAbs.mp (Nat.Coprime.dvd_of_dvd_mul_left (by
      have : Nat.gcd t.natAbs b.natAbs = 1 := g
      rw [Nat.Coprime, Nat.gcd_comm]
      exact this) d)
  have e2 : b = b' := Int.le_antisymm (Int.le_of_dvd h' (k t b t' b' h h' g e)) (Int.le_of_dvd h (k t' b' t b h' h g' e.symm))
  subst e2
  exact ⟨Int.eq_of_mul_eq_mul_right (by omega) e, rfl⟩
theorem rt_eq {n d t b : Int} (h : d ≠ 0) (hb : 0 < b) (g : Int.gcd t b = 1) (e : t * d = n * b) : rt n d = t ∧ rb n d = b := by
  obtain ⟨p, q, r⟩ := rt_specN (n := n) h
  refine low_uniq p hb q g ?_
  refine Int.eq_of_mul_eq_mul_right h ?_
  have e1 : rt n d * b * d = (rt n d * d) * b := by grind
  have e2 : t * rb n d * d = (t * d) * rb n d := by grind
  rw [e1, e2, r, e]
  grind
/-- scaled alike -/
theorem rt_scale {n d f : Int} (h : d ≠ 0) (hf : f ≠ 0) : rt (n * f) (d * f) = rt n d ∧ rb (n * f) (d * f) = rb n d := by
  obtain ⟨p, q, r⟩ := rt_specN (n := n) h
  refine rt_eq (Int.mul_ne_zero h hf) p q ?_
  have : rt n d * (d * f) = (rt n d * d) * f := by grind
  rw [this, r]
  grind
theorem rt_bits {n d : Int} {B C : Nat} (h : d ≠ 0) (hn : Bits B n) (hd : Bits C d) : Bits B (rt n d) ∧ Bits C (rb n d) := by
  obtain ⟨p, q, r⟩ := rt_specN (n := n) h
  have e : (rt n d).natAbs * d.natAbs = n.natAbs * (rb n d).natAbs := by rw [← Int.natAbs_mul, r, Int.natAbs_mul]
  have dv : (rb n d).natAbs ∣ d.natAbs := by
    have d1 : (rb n d).natAbs ∣ (rt n d).natAbs * d.natAbs := by
      rw [e]
      exact Nat.dvd_mul_left _ _
    exact Nat.Coprime.dvd_of_dvd_mul_left (by
      have : Nat.gcd (rt n d).natAbs (rb n d).natAbs = 1 := q
      rw [Nat.Coprime, Nat.gcd_comm]
      exact this) d1
  have l1 : (rb n d).natAbs ≤ d.natAbs := Nat.le_of_dvd (by omega) dv
  have l2 : (rt n d).natAbs ≤ n.natAbs := by
    have e3 : n.natAbs * (rb n d).natAbs ≤ n.natAbs * d.natAbs := Nat.mul_le_mul_left _ l1
    exact Nat.le_of_mul_le_mul_right (by omega : (rt n d).natAbs * d.natAbs ≤ n.natAbs * d.natAbs) (by omega)
  exact ⟨hn.le l2, hd.le l1⟩
/-- a fraction in lowest terms of no more than 1100 bits -/
structure Lo (p q : Int) : Prop where
  pos : 0 < q
  g : Int.gcd p q = 1
  bp : Bits 1100 p
  bq : Bits 1100 q
theorem Lo.rt {p q : Int} (h : Lo p q) : rt p q = p ∧ rb p q = q := rt_low h.pos h.g
def fs_rop (K : Frag) (f g : Int → Int → Int → Int → Int) : F2 := fun x y H Q _ => ∃ (a b : Addr) (p q r s : Int), x = .ref a ∧ y = .ref b ∧ IsR K H a p q ∧ IsR K H b r s ∧ Lo p q ∧ Lo r s ∧ ∀ c H', Same H H' → IsR K H' c (rt (f p q r s) (g p q r s)) (rb (f p q r s) (g p q r s)) → Q (.ref c) H'
def fs_div (K : Frag) : F2 := fun x y H Q E => ∃ (a b : Addr) (p q r s : Int), x = .ref a ∧ y = .ref b ∧ IsR K H a p q ∧ IsR K H b r s ∧ Lo p q ∧ Bits 1100 r ∧ Bits 1100 s ∧
  (r ≠ 0 → ∀ c H', Same H H' → IsR K H' c (rt (p * s) (q * r)) (rb (p * s) (q * r)) → Q (.ref c) H') ∧ (r = 0 → ∀ H', Same H H' → E (.ref (He.ga K "ZeroBottom")) none H')
def fs_run (K : Frag) (f : Int → Int) : F1 := fun x H Q _ => ∃ (a : Addr) (p q : Int), x = .ref a ∧ IsR K H a p q ∧ q ≠ 0 ∧ Bits 8999 q ∧ ∀ c H', Same H H' → IsR K H' c (rt (f p) q) (rb (f p) q) → Q (.ref c) H'
def cmpI (x y : Int) : Int := if x < y then -1 else if y < x then 1 else 0
def fs_cmp (K : Frag) : F2 := fun x y H Q _ => ∃ (a b : Addr) (p q r s : Int), x = .ref a ∧ y = .ref b ∧ IsR K H a p q ∧ IsR K H b r s ∧ Lo p q ∧ Lo r s ∧ Q (.int (cmpI (p * s) (r * q))) H
def fs_sgn (K : Frag) : F1 := fun x H Q _ => ∃ (a : Addr) (p q : Int), x = .ref a ∧ IsR K H a p q ∧ Q (.int (cmpI p 0)) H
def fs_flo (K : Frag) (f : Int → Int → Int) : F1 := fun x H Q _ => ∃ (a : Addr) (p q : Int), x = .ref a ∧ IsR K H a p q ∧ Lo p q ∧ Q (.int (f p q)) H
/-- the own ==: of a Ratio, or of another thing -/
def fs_req (K : Frag) : F2 := fun x y H Q _ => ∃ (a : Addr) (p q : Int), x = .ref a ∧ IsR K H a p q ∧ ((∃ (b : Addr) (r s : Int), y = .ref b ∧ IsR K H b r s ∧ Q (.bl (decide (p = r) && decide (q = s))) H) ∨ ∃ t, TyX K H y t ∧ PySem.W.kitOne K t (.ref (He.ga K "Ratio")) = some false ∧ Q (.bl false) H)
def fs_wp : F2 := fun x y H Q _ => ∃ (b : Int) (e B : Nat), x = .int b ∧ y = .int (e : Int) ∧ Bits B b ∧ e ≤ 100000 ∧ B * e + 2 ≤ 800000 ∧ Q (.int (b ^ e)) H
theorem u_wp {H : Hp} {Q : VK} {E : XK} {b : Int} {e B : Nat} (h : Bits B b) (he : e ≤ 100000) (hB : B * e + 2 ≤ 800000) (q : Q (.int (b ^ e)) H) : sp2 fs_wp [.int b, .int (e : Int)] H Q E := ⟨_, _, rfl, b, e, B, rfl, rfl, h, he, hB, q⟩
def fs_cn (K : Frag) : F3 := fun a b c H Q E => ∃ v l : Int, a = .int v ∧ b = .int l ∧ (c = .non ∨ ∃ h, c = .int h) ∧
  ((l ≤ v ∧ ∀ h, c = .int h → v ≤ h) → Q .non H) ∧ (¬ (l ≤ v ∧ ∀ h, c = .int h → v ≤ h) → ∀ d H', Same H H' → H' d = some (.xd [("value", .int v)]) → E (.ref (He.ga K "OutOfBounds")) (some d) H')
local macro_rules | `(tactic| walk_at "up") => `(tactic| first
  | assumption
  | (refine' IsR.mono (by assumption) ?zup; case zup => walk_at "up")
  | (refine' IsE.mono (by assumption) ?zup; case zup => walk_at "up")
  | (refine' Same.at (by assumption) ?zup; case zup => walk_at "up")
  | (refine' SqL.of ?zup; case zup => walk_at "up")
  | (refine' L2.Same.seq (by assumption) ?zup; case zup => walk_at "up"))
local macro_rules | `(tactic| walk_at "z") => `(tactic| first
  | ((with_reducible refine' z_var ?zvh ?_); (case zvh => exact rfl))
  | with_reducible refine z_c ?_
  | with_reducible refine z_cons ?_
  | with_reducible refine z_nil ?_
  | with_reducible refine z_op ?_
  | with_reducible refine z_nx ?_
  | with_reducible refine z_seq ?_
  | with_reducible refine z_asg ?_
  | with_reducible refine z_asgG ?_
  | with_reducible refine z_call ?_
  | with_reducible refine z_sq0 ?_
  | with_reducible refine z_sq1 ?_
  | with_reducible refine z_ifS ?_
  | with_reducible refine z_test ?_
  | with_reducible refine z_tb ?_
  | with_reducible refine z_bl ?_
  | with_reducible refine z_blI ?_
  | with_reducible refine z_ret ?_
  | with_reducible refine z_rt ?_
  | with_reducible refine z_T ?_
  | with_reducible refine z_F ?_
  | with_reducible refine z_add ?_
  | with_reducible refine z_sub ?_
  | with_reducible refine z_neg ?_
  | with_reducible refine z_un ?_
  | with_reducible refine z_eqI ?_
  | with_reducible refine z_neI ?_
  | with_reducible refine z_lt ?_
  | with_reducible refine z_le ?_
  | with_reducible refine z_gt ?_
  | with_reducible refine z_ge ?_
  | with_reducible refine z_not ?_
  | with_reducible refine z_and ?_
  | with_reducible refine z_or ?_
  | with_reducible refine z_andV ?_
  | with_reducible refine z_orV ?_
  | with_reducible refine z_notV ?_
  | with_reducible refine z_if ?_
  | with_reducible refine z_cb ?_
  | with_reducible refine z_int1 ?_
  | with_reducible refine z_intb ?_
  | with_reducible refine z_abs ?_
  | with_reducible refine z_gcd ?_
  | with_reducible refine z_isi_ii ?_
  | with_reducible refine z_isi_ib ?_
  | with_reducible refine z_next ?_
  | with_reducible refine z_drop ?_
  | with_reducible refine z_par ?_
  | with_reducible refine z_par2 ?_
  | with_reducible refine z_tupN ?_
  | with_reducible refine z_lstN ?_
  | ((with_reducible refine' z_nt ?zl1 ?_); (case zl1 => exact Nat.le_of_ble_eq_true rfl); intro p H' hp hs he)
  | ((with_reducible refine' z_gtup ?zl1 ?zl2 ?_); (case zl1 => walk_at "up"); (case zl2 => exact rfl))
  | with_reducible refine z_bk ?_
  | with_reducible refine z_ct ?_
  | with_reducible refine z_break ?_
  | with_reducible refine z_cont ?_
  | with_reducible refine z_retN ?_
  | with_reducible refine z_nn ?_
  | with_reducible refine z_mk ?_
  | with_reducible refine z_gn ?_
  | with_reducible refine z_gcons ?_
  | with_reducible refine z_gnil ?_
  | with_reducible refine z_mt ?_
  | with_reducible refine z_mko ?_
  | with_reducible refine z_for2 ?_
  | with_reducible refine z_ownI ?_
  | ((with_reducible refine' z_lenL ?zl1 ?_); (case zl1 => walk_at "up"))
  | ((with_reducible refine' z_ixT ?zl1 ?zl2 ?_); (case zl1 => walk_at "up"); (case zl2 => exact rfl))
  | ((with_reducible refine' z_mulL ?zl1 ?zl2 ?_); (case zl1 => omega); (case zl2 => omega))
  | ((with_reducible refine' z_mulR ?zl1 ?zl2 ?_); (case zl1 => omega); (case zl2 => omega))
  | ((with_reducible refine' z_divS ?zl1 ?zl2 ?_); (case zl1 => omega); (case zl2 => omega))
  | ((with_reducible refine' z_mulW ?zl1 ?zl2 ?zl3 ?zl4 ?_); (case zl1 => omega); (case zl2 => omega); (case zl3 => omega); (case zl4 => omega))
  | ((with_reducible refine' z_divW ?zl1 ?zl2 ?_); (case zl1 => omega); (case zl2 => omega)))
local macro_rules | `(tactic| walk_at "zz") => `(tactic| repeat (walk_at "z"))
local macro_rules | `(tactic| walk_at "z") => `(tactic| with_reducible refine z_lstN ?_)
local macro_rules | `(tactic| walk_at "z") => `(tactic| with_reducible refine z_p6 ?_)
local macro_rules | `(tactic| walk_at "z") => `(tactic| with_reducible refine z_p12 ?_)
local macro_rules | `(tactic| walk_at "z") => `(tactic| with_reducible refine z_p13 ?_)
local macro_rules | `(tactic| walk_at "z") => `(tactic| with_reducible refine z_calln ?_)
local macro_rules | `(tactic| walk_at "z") => `(tactic| with_reducible refine z_xfS ?_)
local macro_rules | `(tactic| walk_at "z") => `(tactic| with_reducible refine z_lcS ?_)
local macro_rules | `(tactic| walk_at "z") => `(tactic| with_reducible refine z_lcRS ?_)
local macro_rules | `(tactic| walk_at "z") => `(tactic| with_reducible refine z_lcZS ?_)
local macro_rules | `(tactic| walk_at "z") => `(tactic| with_reducible refine z_foS ?_)
local macro_rules | `(tactic| walk_at "z") => `(tactic| with_reducible refine z_for1 ?_)
local macro_rules | `(tactic| walk_at "z") => `(tactic| with_reducible refine z_tsl ?_)
local macro_rules | `(tactic| walk_at "z") => `(tactic| with_reducible refine z_np ?_)
local macro_rules | `(tactic| walk_at "z") => `(tactic| with_reducible refine z_pt ?_)
local macro_rules | `(tactic| walk_at "z") => `(tactic| with_reducible refine z_pti ?_)
local macro_rules | `(tactic| walk_at "z") => `(tactic| with_reducible refine z_catI ?_)
local macro_rules | `(tactic| walk_at "z") => `(tactic| with_reducible refine z_isNI ?_)
local macro_rules | `(tactic| walk_at "z") => `(tactic| with_reducible refine z_isNN ?_)
local macro_rules | `(tactic| walk_at "z") => `(tactic| with_reducible refine z_notNI ?_)
local macro_rules | `(tactic| walk_at "z") => `(tactic| with_reducible refine z_notNN ?_)
local macro_rules | `(tactic| walk_at "z") => `(tactic| with_reducible refine z_gsub ?_)
local macro_rules | `(tactic| walk_at "z") => `(tactic| with_reducible refine z_isNb ?_)
local macro_rules | `(tactic| walk_at "z") => `(tactic| with_reducible refine z_notNb ?_)
local macro_rules | `(tactic| walk_at "z") => `(tactic| ((with_reducible refine' z_nlR ?zl1 ?_); (case zl1 => exact Nat.le_of_ble_eq_true rfl); intro p H' hp hs he))
local macro_rules | `(tactic| walk_at "z") => `(tactic| ((with_reducible refine' z_repR ?zl1 ?zl2 ?_); (case zl1 => omega); (case zl2 => omega)))
local macro_rules | `(tactic| walk_at "z") => `(tactic| ((with_reducible refine' z_repL ?zl1 ?zl2 ?_); (case zl1 => omega); (case zl2 => omega)))
local macro_rules | `(tactic| walk_at "z") => `(tactic| ((with_reducible refine' z_lenLst ?zl1 ?_); (case zl1 => walk_at "up")))
local macro_rules | `(tactic| walk_at "z") => `(tactic| ((with_reducible refine' z_cat ?zl1 ?zl2 ?zl3 ?_); (case zl1 => walk_at "up"); (case zl2 => walk_at "up"); (case zl3 => (simp only [List.length_map, List.length_cons, List.length_nil, List.length_append, List.length_replicate]; omega)); intro p H' hp hs he))
local macro_rules | `(tactic| walk_at "z") => `(tactic| with_reducible refine z_sfl ?_)
local macro_rules | `(tactic| walk_at "z") => `(tactic| with_reducible refine z_lcES ?_)
local macro_rules | `(tactic| walk_at "z") => `(tactic| with_reducible refine z_lcMS ?_)
local macro_rules | `(tactic| walk_at "z") => `(tactic| with_reducible refine z_foES ?_)
local macro_rules | `(tactic| walk_at "z") => `(tactic| with_reducible refine z_fo3S ?_)
local macro_rules | `(tactic| walk_at "z") => `(tactic| with_reducible refine z_sta ?_)
local macro_rules | `(tactic| walk_at "z") => `(tactic| with_reducible refine z_sta1 ?_)
local macro_rules | `(tactic| walk_at "z") => `(tactic| ((with_reducible refine' z_fldt ?zc1 ?zc2 ?zl1 ?zl2 ?_); (case zc1 => exact Lw.cl_Ratio (by assumption)); (case zc2 => exact Lw.na_Ratio_top (by assumption)); (case zl1 => exact rfl); (case zl2 => walk_at "up")))
local macro_rules | `(tactic| walk_at "z") => `(tactic| ((with_reducible refine' z_fldb ?zc1 ?zc2 ?zl1 ?zl2 ?_); (case zc1 => exact Lw.cl_Ratio (by assumption)); (case zc2 => exact Lw.na_Ratio_bottom (by assumption)); (case zl1 => exact rfl); (case zl2 => walk_at "up")))
local macro_rules | `(tactic| walk_at "z") => `(tactic| with_reducible refine z_c3I ?_)
local macro_rules | `(tactic| walk_at "z") => `(tactic| with_reducible refine z_r2I ?_)
local macro_rules | `(tactic| walk_at "z") => `(tactic| with_reducible refine z_for3 ?_)
local macro_rules | `(tactic| walk_at "z") => `(tactic| with_reducible refine z_tbits ?_)
local macro_rules | `(tactic| walk_at "z") => `(tactic| with_reducible refine z_tbi ?_)
local macro_rules | `(tactic| walk_at "up") => `(tactic| first
  | assumption
  | (with_reducible refine' IsR.mono (by assumption) ?zup; case zup => walk_at "up")
  | (with_reducible refine' Same.at (by assumption) ?zup; case zup => walk_at "up")
  | fail)
section
variable {P : Program} {w : World} {K : Frag} {mg : Str → Option Value} {base : Heap}
theorem ok_OutOfBoundsD_initD (L : Lw K mg) {fd : FuncData} (F : FunD K "__init__" "OutOfBounds.__init__" (defArgs s_OutOfBoundsD_initD) (defBody s_OutOfBoundsD_initD) (defScope s_OutOfBoundsD_initD) (df_OutOfBoundsD_initD.dvs K) (df_OutOfBoundsD_initD.kws K) (He.fAd K ("OutOfBounds", some "__init__")) fd) : FnOk P w K mg base (L2N.CX P w) 1 (He.fAd K ("OutOfBounds", some "__init__")) fd (["self", "value"] : List Str) (sp2 (fs_ex1 K "OutOfBounds" "value")) := by
  refine FunD.ok F sc_OutOfBoundsD_initD len2 (fun cdv A outer s H vs Q E hr h => ?_)
  obtain ⟨a, b, rfl, h⟩ := h
  refine ⟨_, (pss_one (ps_ost (pv 0) (pv 1))), ?_⟩
  obtain ⟨e, H0, rfl, rfl, h0, k⟩ := h
  exact run_ex1 (L.ox_OutOfBounds).1 L.na_OutOfBounds_value h0 rfl rfl k
theorem c_OutOfBoundsD_initD (L : Lw K mg) : MakX P w K mg base 1 "OutOfBounds" (He.ga K "OutOfBounds") (sp2 (fs_ex1 K "OutOfBounds" "value")) := by
  obtain ⟨fd, F⟩ := L.d_OutOfBoundsD_initD
  exact ⟨⟨_, fd, ["self", "value"], (L.ox_OutOfBounds).1, (L.ox_OutOfBounds).2.1, (L.ox_OutOfBounds).2.2, ok_OutOfBoundsD_initD L F, L.g_OutOfBounds, F.bindsN (fun _ _ _ _ _ _ us hl => match us, hl with | [_, _], _ => rfl)⟩⟩
theorem ok_BadTextD_initD (L : Lw K mg) {fd : FuncData} (F : FunD K "__init__" "BadText.__init__" (defArgs s_BadTextD_initD) (defBody s_BadTextD_initD) (defScope s_BadTextD_initD) (df_BadTextD_initD.dvs K) (df_BadTextD_initD.kws K) (He.fAd K ("BadText", some "__init__")) fd) : FnOk P w K mg base (L2N.CX P w) 1 (He.fAd K ("BadText", some "__init__")) fd (["self", "given"] : List Str) (sp2 (fs_ex1 K "BadText" "given")) := by
  refine FunD.ok F sc_BadTextD_initD len2 (fun cdv A outer s H vs Q E hr h => ?_)
  obtain ⟨a, b, rfl, h⟩ := h
  refine ⟨_, (pss_one (ps_ost (pv 0) (pv 1))), ?_⟩
  obtain ⟨e, H0, rfl, rfl, h0, k⟩ := h
  exact run_ex1 (L.ox_BadText).1 L.na_BadText_given h0 rfl rfl k
theorem c_BadTextD_initD (L : Lw K mg) : MakX P w K mg base 1 "BadText" (He.ga K "BadText") (sp2 (fs_ex1 K "BadText" "given")) := by
  obtain ⟨fd, F⟩ := L.d_BadTextD_initD
  exact ⟨⟨_, fd, ["self", "given"], (L.ox_BadText).1, (L.ox_BadText).2.1, (L.ox_BadText).2.2, ok_BadTextD_initD L F, L.g_BadText, F.bindsN (fun _ _ _ _ _ _ us hl => match us, hl with | [_, _], _ => rfl)⟩⟩
theorem ok_check_number (L : Lw K mg) {fd : FuncData} (F : FunD K "check_number" "check_number" (defArgs s_check_number) (defBody s_check_number) (defScope s_check_number) (df_check_number.dvs K) (df_check_number.kws K) (He.fAd K ("check_number", none)) fd) : FnOk P w K mg base (L2N.CX P w) 3 (He.fAd K ("check_number", none)) fd (["value", "low", "high"] : List Str) (sp3 (fs_cn K)) := by
  refine FunD.ok F sc_check_number len3 (fun cdv A outer s H vs Q E hr h => ?_)
  obtain ⟨a, b, c, rfl, h⟩ := h
  refine ⟨_, (pss_one (ps_if (PW.pt (pw_or (pt_cmpR o_lt (pv 0) (pv 1) (nomark _)) (pw_or1 (PW.pt (pw_and (pt_cmpR o_notN (pv 2) pe_non (nomark _)) (pw_and1 (pt_cmpR o_gt (pv 0) (pv 2) (nomark _)))))))) (pss_one (L2N.ps_raise rfl (L2N.takes_of rfl rfl rfl rfl) (pmk_x (c_OutOfBoundsD_initD (K := K) L) hr (by decide) passF (pa_cons (pv 0) pa_nil)))) pss_nil)), ?_⟩
  obtain ⟨v, l, rfl, rfl, hc, k, kx⟩ := h
  walk_at "zz"
  refine z_d2 (fun c => ?_) (fun c => ?_)
  · walk_at "zz"
    exact z_exo1 (kx (by omega))
  · rcases hc with rfl | ⟨h, rfl⟩
    · walk_at "zz"
      exact k ⟨by omega, fun h e => by cases e⟩
    · walk_at "zz"
      refine z_d2 (fun c2 => ?_) (fun c2 => ?_)
      · walk_at "zz"
        exact z_exo1 (kx (fun z => absurd (z.2 h rfl) (by omega)))
      · walk_at "zz"
        exact k ⟨by omega, fun h' e => by cases e; omega⟩
theorem c_check_number (L : Lw K mg) : Cal P w K mg base 3 "check_number" (sp3 (fs_cn K)) [] := by
  obtain ⟨fd, F⟩ := L.d_check_number
  obtain ⟨ds, vds, bds⟩ := F.binds1 (ps := ["value", "low", "high"]) 3 1 (by intro z; cases z) rfl (fun _ _ _ _ _ _ _ us its hl hi => match us, its, hl, hi with | [_, _, _], [_], _, _ => ⟨_, rfl, rfl⟩)
  exact ⟨⟨_, fd, ["value", "low", "high"], ds, ok_check_number L F, L.g_check_number, F.kp, bds, vds⟩⟩
theorem ok_RatioD_addD (L : Lw K mg) {fd : FuncData} (F : FunD K "__add__" "Ratio.__add__" (defArgs s_RatioD_addD) (defBody s_RatioD_addD) (defScope s_RatioD_addD) (df_RatioD_addD.dvs K) (df_RatioD_addD.kws K) (He.fAd K ("Ratio", some "__add__")) fd) : FnOk P w K mg base (L2N.CX P w) 3 (He.fAd K ("Ratio", some "__add__")) fd (["self", "other"] : List Str) (sp2 (fs_rop K (fun p q r s => p * s + r * q) (fun p q r s => q * s))) := by
  refine FunD.ok F sc_RatioD_addD len2 (fun cdv A outer s H vs Q E hr h => ?_)
  obtain ⟨x, y, rfl, h⟩ := h
  refine ⟨_, (pss_one (ps_ret (pe_mk (c_RatioD_initD (K := K) L) hr (by decide) (L2N.takes_of rfl rfl rfl rfl) (pa_cons (pe_op o_cat3 (pe_op o_rep2 (pe_fld (pv 0) rfl) (pe_fld (pv 1) rfl)) (pe_op o_rep2 (pe_fld (pv 1) rfl) (pe_fld (pv 0) rfl))) (pa_cons (pe_op o_rep2 (pe_fld (pv 0) rfl) (pe_fld (pv 1) rfl)) pa_nil))))), ?_⟩
  obtain ⟨a, b, p, q, r, s, rfl, rfl, ha, hb, l1, l2, k⟩ := h
  walk_at "zz"
  refine z_repU0 l1.bp l2.bq (by omega) ?_
  walk_at "zz"
  refine z_repU0 l2.bp l1.bq (by omega) ?_
  walk_at "zz"
  refine z_repU0 l1.bq l2.bq (by omega) ?_
  walk_at "zz"
  exact z_mkR (Int.mul_ne_zero (by have := l1.pos; omega) (by have := l2.pos; omega)) ((l1.bq.mul l2.bq).up (by omega)) k
theorem c_RatioD_addD (L : Lw K mg) : Met P w K mg base 3 (He.ga K "Ratio") "__add__" (sp2 (fs_rop K (fun p q r s => p * s + r * q) (fun p q r s => q * s))) [] := by
  obtain ⟨fd, F⟩ := L.d_RatioD_addD
  exact ⟨⟨_, fd, ["self", "other"], [], L.cl_Ratio, L.me_RatioD_addD, ok_RatioD_addD L F, F.bindsN (fun _ _ _ _ _ _ us hl => match us, hl with | [_, _], _ => rfl), .nil⟩⟩
theorem ok_RatioD_subD (L : Lw K mg) {fd : FuncData} (F : FunD K "__sub__" "Ratio.__sub__" (defArgs s_RatioD_subD) (defBody s_RatioD_subD) (defScope s_RatioD_subD) (df_RatioD_subD.dvs K) (df_RatioD_subD.kws K) (He.fAd K ("Ratio", some "__sub__")) fd) : FnOk P w K mg base (L2N.CX P w) 3 (He.fAd K ("Ratio", some "__sub__")) fd (["self", "other"] : List Str) (sp2 (fs_rop K (fun p q r s => p * s - r * q) (fun p q r s => q * s))) := by
  refine FunD.ok F sc_RatioD_subD len2 (fun cdv A outer s H vs Q E hr h => ?_)
  obtain ⟨x, y, rfl, h⟩ := h
  refine ⟨_, (pss_one (ps_ret (pe_mk (c_RatioD_initD (K := K) L) hr (by decide) (L2N.takes_of rfl rfl rfl rfl) (pa_cons (pe_op o_sub (pe_op o_rep2 (pe_fld (pv 0) rfl) (pe_fld (pv 1) rfl)) (pe_op o_rep2 (pe_fld (pv 1) rfl) (pe_fld (pv 0) rfl))) (pa_cons (pe_op o_rep2 (pe_fld (pv 0) rfl) (pe_fld (pv 1) rfl)) pa_nil))))), ?_⟩
  obtain ⟨a, b, p, q, r, s, rfl, rfl, ha, hb, l1, l2, k⟩ := h
  walk_at "zz"
  refine z_repU0 l1.bp l2.bq (by omega) ?_
  walk_at "zz"
  refine z_repU0 l2.bp l1.bq (by omega) ?_
  walk_at "zz"
  refine z_repU0 l1.bq l2.bq (by omega) ?_
  walk_at "zz"
  exact z_mkR (Int.mul_ne_zero (by have := l1.pos; omega) (by have := l2.pos; omega)) ((l1.bq.mul l2.bq).up (by omega)) k
theorem c_RatioD_subD (L : Lw K mg) : Met P w K mg base 3 (He.ga K "Ratio") "__sub__" (sp2 (fs_rop K (fun p q r s => p * s - r * q) (fun p q r s => q * s))) [] := by
  obtain ⟨fd, F⟩ := L.d_RatioD_subD
  exact ⟨⟨_, fd, ["self", "other"], [], L.cl_Ratio, L.me_RatioD_subD, ok_RatioD_subD L F, F.bindsN (fun _ _ _ _ _ _ us hl => match us, hl with | [_, _], _ => rfl), .nil⟩⟩
theorem ok_RatioD_mulD (L : Lw K mg) {fd : FuncData} (F : FunD K "__mul__" "Ratio.__mul__" (defArgs s_RatioD_mulD) (defBody s_RatioD_mulD) (defScope s_RatioD_mulD) (df_RatioD_mulD.dvs K) (df_RatioD_mulD.kws K) (He.fAd K ("Ratio", some "__mul__")) fd) : FnOk P w K mg base (L2N.CX P w) 3 (He.fAd K ("Ratio", some "__mul__")) fd (["self", "other"] : List Str) (sp2 (fs_rop K (fun p q r s => p * r) (fun p q r s => q * s))) := by
  refine FunD.ok F sc_RatioD_mulD len2 (fun cdv A outer s H vs Q E hr h => ?_)
  obtain ⟨x, y, rfl, h⟩ := h
  refine ⟨_, (pss_one (ps_ret (pe_mk (c_RatioD_initD (K := K) L) hr (by decide) (L2N.takes_of rfl rfl rfl rfl) (pa_cons (pe_op o_rep2 (pe_fld (pv 0) rfl) (pe_fld (pv 1) rfl)) (pa_cons (pe_op o_rep2 (pe_fld (pv 0) rfl) (pe_fld (pv 1) rfl)) pa_nil))))), ?_⟩
  obtain ⟨a, b, p, q, r, s, rfl, rfl, ha, hb, l1, l2, k⟩ := h
  walk_at "zz"
  refine z_repU0 l1.bp l2.bp (by omega) ?_
  walk_at "zz"
  refine z_repU0 l1.bq l2.bq (by omega) ?_
  walk_at "zz"
  exact z_mkR (Int.mul_ne_zero (by have := l1.pos; omega) (by have := l2.pos; omega)) ((l1.bq.mul l2.bq).up (by omega)) k
theorem c_RatioD_mulD (L : Lw K mg) : Met P w K mg base 3 (He.ga K "Ratio") "__mul__" (sp2 (fs_rop K (fun p q r s => p * r) (fun p q r s => q * s))) [] := by
  obtain ⟨fd, F⟩ := L.d_RatioD_mulD
  exact ⟨⟨_, fd, ["self", "other"], [], L.cl_Ratio, L.me_RatioD_mulD, ok_RatioD_mulD L F, F.bindsN (fun _ _ _ _ _ _ us hl => match us, hl with | [_, _], _ => rfl), .nil⟩⟩
theorem ok_Ratio_divided (L : Lw K mg) {fd : FuncData} (F : FunD K "divided" "Ratio.divided" (defArgs s_Ratio_divided) (defBody s_Ratio_divided) (defScope s_Ratio_divided) (df_Ratio_divided.dvs K) (df_Ratio_divided.kws K) (He.fAd K ("Ratio", some "divided")) fd) : FnOk P w K mg base (L2N.CX P w) 3 (He.fAd K ("Ratio", some "divided")) fd (["self", "other"] : List Str) (sp2 (fs_div K)) := by
  refine FunD.ok F sc_Ratio_divided len2 (fun cdv A outer s H vs Q E hr h => ?_)
  obtain ⟨x, y, rfl, h⟩ := h
  refine ⟨_, (pss_one (ps_ret (pe_mk (c_RatioD_initD (K := K) L) hr (by decide) (L2N.takes_of rfl rfl rfl rfl) (pa_cons (pe_op o_rep2 (pe_fld (pv 0) rfl) (pe_fld (pv 1) rfl)) (pa_cons (pe_op o_rep2 (pe_fld (pv 0) rfl) (pe_fld (pv 1) rfl)) pa_nil))))), ?_⟩
  obtain ⟨a, b, p, q, r, s, rfl, rfl, ha, hb, l1, br, bs, k, kz⟩ := h
  walk_at "zz"
  refine z_repU0 l1.bp bs (by omega) ?_
  walk_at "zz"
  refine z_repU0 l1.bq br (by omega) ?_
  walk_at "zz"
  refine fun x dx hx hdx ne => ⟨_, _, _, rfl, x, dx, H, _, _, rfl, rfl, rfl, rfl, hx, hdx, ne, (l1.bq.mul br).up (by omega), fun hd H' e hr => ⟨rfl, k (fun z => hd (by rw [z, Int.mul_zero])) x H' e hr⟩, fun z H' e => kz ?_ H' e⟩
  rcases Int.mul_eq_zero.mp z with z | z
  · have := l1.pos
    omega
  · exact z
theorem c_Ratio_divided (L : Lw K mg) : Met P w K mg base 3 (He.ga K "Ratio") "divided" (sp2 (fs_div K)) [] := by
  obtain ⟨fd, F⟩ := L.d_Ratio_divided
  exact ⟨⟨_, fd, ["self", "other"], [], L.cl_Ratio, L.me_Ratio_divided, ok_Ratio_divided L F, F.bindsN (fun _ _ _ _ _ _ us hl => match us, hl with | [_, _], _ => rfl), .nil⟩⟩
theorem ok_RatioD_negD (L : Lw K mg) {fd : FuncData} (F : FunD K "__neg__" "Ratio.__neg__" (defArgs s_RatioD_negD) (defBody s_RatioD_negD) (defScope s_RatioD_negD) (df_RatioD_negD.dvs K) (df_RatioD_negD.kws K) (He.fAd K ("Ratio", some "__neg__")) fd) : FnOk P w K mg base (L2N.CX P w) 3 (He.fAd K ("Ratio", some "__neg__")) fd (["self"] : List Str) (sp1 (fs_run K (fun p => -p))) := by
  refine FunD.ok F sc_RatioD_negD len1 (fun cdv A outer s H vs Q E hr h => ?_)
  obtain ⟨x, rfl, h⟩ := h
  refine ⟨_, (pss_one (ps_ret (pe_mk (c_RatioD_initD (K := K) L) hr (by decide) (L2N.takes_of rfl rfl rfl rfl) (pa_cons (pe_un o_neg (pe_fld (pv 0) rfl)) (pa_cons (pe_fld (pv 0) rfl) pa_nil))))), ?_⟩
  obtain ⟨a, p, q, rfl, ha, q0, bq, k⟩ := h
  walk_at "zz"
  exact z_mkR q0 bq k
theorem c_RatioD_negD (L : Lw K mg) : Met P w K mg base 3 (He.ga K "Ratio") "__neg__" (sp1 (fs_run K (fun p => -p))) [] := by
  obtain ⟨fd, F⟩ := L.d_RatioD_negD
  exact ⟨⟨_, fd, ["self"], [], L.cl_Ratio, L.me_RatioD_negD, ok_RatioD_negD L F, F.bindsN (fun _ _ _ _ _ _ us hl => match us, hl with | [_], _ => rfl), .nil⟩⟩
theorem ok_RatioD_absD (L : Lw K mg) {fd : FuncData} (F : FunD K "__abs__" "Ratio.__abs__" (defArgs s_RatioD_absD) (defBody s_RatioD_absD) (defScope s_RatioD_absD) (df_RatioD_absD.dvs K) (df_RatioD_absD.kws K) (He.fAd K ("Ratio", some "__abs__")) fd) : FnOk P w K mg base (L2N.CX P w) 3 (He.fAd K ("Ratio", some "__abs__")) fd (["self"] : List Str) (sp1 (fs_run K (fun p => ((p.natAbs : Nat) : Int)))) := by
  refine FunD.ok F sc_RatioD_absD len1 (fun cdv A outer s H vs Q E hr h => ?_)
  obtain ⟨x, rfl, h⟩ := h
  refine ⟨_, (pss_one (ps_ret (pe_mk (c_RatioD_initD (K := K) L) hr (by decide) (L2N.takes_of rfl rfl rfl rfl) (pa_cons (pe_callB o_abs (by rfl) L.f_abs (by decide +kernel) (pa_cons (pe_fld (pv 0) rfl) pa_nil)) (pa_cons (pe_fld (pv 0) rfl) pa_nil))))), ?_⟩
  obtain ⟨a, p, q, rfl, ha, q0, bq, k⟩ := h
  walk_at "zz"
  exact z_mkR q0 bq k
theorem c_RatioD_absD (L : Lw K mg) : Met P w K mg base 3 (He.ga K "Ratio") "__abs__" (sp1 (fs_run K (fun p => ((p.natAbs : Nat) : Int)))) [] := by
  obtain ⟨fd, F⟩ := L.d_RatioD_absD
  exact ⟨⟨_, fd, ["self"], [], L.cl_Ratio, L.me_RatioD_absD, ok_RatioD_absD L F, F.bindsN (fun _ _ _ _ _ _ us hl => match us, hl with | [_], _ => rfl), .nil⟩⟩
theorem ok_Ratio_compare (L : Lw K mg) {fd : FuncData} (F : FunD K "compare" "Ratio.compare" (defArgs s_Ratio_compare) (defBody s_Ratio_compare) (defScope s_Ratio_compare) (df_Ratio_compare.dvs K) (df_Ratio_compare.kws K) (He.fAd K ("Ratio", some "compare")) fd) : FnOk P w K mg base (L2N.CX P w) 1 (He.fAd K ("Ratio", some "compare")) fd (["self", "other"] : List Str) (sp2 (fs_cmp K)) := by
  refine FunD.ok F sc_Ratio_compare len2 (fun cdv A outer s H vs Q E hr h => ?_)
  obtain ⟨x, y, rfl, h⟩ := h
  refine ⟨_, (pss_cons (ps_set (i := 2) sc_Ratio_compare.nd rfl (by first | exact Or.inl rfl | exact Or.inr rfl) (pe_op o_rep2 (pe_fld (pv 0) rfl) (pe_fld (pv 1) rfl)))
    (pss_cons (ps_set (i := 3) sc_Ratio_compare.nd rfl (by first | exact Or.inl rfl | exact Or.inr rfl) (pe_op o_rep2 (pe_fld (pv 1) rfl) (pe_fld (pv 0) rfl)))
    (pss_cons (ps_if (pt_cmpR o_lt (pv 2) (pv 3) (nomark _)) (pss_one (ps_ret (pe_un o_neg pe_int))) pss_nil)
    (pss_one (ps_ret (pe_ifExp (pt_cmpR o_gt (pv 2) (pv 3) (nomark _)) pe_int pe_int)))))), ?_⟩
  obtain ⟨a, b, p, q, r, s, rfl, rfl, ha, hb, l1, l2, k⟩ := h
  walk_at "zz"
  refine z_repU0 l1.bp l2.bq (by omega) ?_
  walk_at "zz"
  refine z_repU0 l2.bp l1.bq (by omega) ?_
  walk_at "zz"
  unfold cmpI at k
  refine z_d2 (fun c => ?_) (fun c => ?_)
  · rw [if_pos c] at k
    walk_at "zz"
    exact k
  · rw [if_neg c] at k
    walk_at "zz"
    refine z_d2 (fun c => ?_) (fun c => ?_)
    · rw [if_pos c] at k
      walk_at "zz"
      exact k
    · rw [if_neg c] at k
      walk_at "zz"
      exact k
theorem c_Ratio_compare (L : Lw K mg) : Met P w K mg base 1 (He.ga K "Ratio") "compare" (sp2 (fs_cmp K)) [] := by
  obtain ⟨fd, F⟩ := L.d_Ratio_compare
  exact ⟨⟨_, fd, ["self", "other"], [], L.cl_Ratio, L.me_Ratio_compare, ok_Ratio_compare L F, F.bindsN (fun _ _ _ _ _ _ us hl => match us, hl with | [_, _], _ => rfl), .nil⟩⟩
theorem ok_Ratio_sign (L : Lw K mg) {fd : FuncData} (F : FunD K "sign" "Ratio.sign" (defArgs s_Ratio_sign) (defBody s_Ratio_sign) (defScope s_Ratio_sign) (df_Ratio_sign.dvs K) (df_Ratio_sign.kws K) (He.fAd K ("Ratio", some "sign")) fd) : FnOk P w K mg base (L2N.CX P w) 1 (He.fAd K ("Ratio", some "sign")) fd (["self"] : List Str) (sp1 (fs_sgn K)) := by
  refine FunD.ok F sc_Ratio_sign len1 (fun cdv A outer s H vs Q E hr h => ?_)
  obtain ⟨x, rfl, h⟩ := h
  refine ⟨_, (pss_cons (ps_if (pt_cmpR o_lt (pe_fld (pv 0) rfl) pe_int (nomark _)) (pss_one (ps_ret (pe_un o_neg pe_int))) pss_nil)
    (pss_one (ps_ret (pe_ifExp (pt_cmpR o_gt (pe_fld (pv 0) rfl) pe_int (nomark _)) pe_int pe_int)))), ?_⟩
  obtain ⟨a, p, q, rfl, ha, k⟩ := h
  walk_at "zz"
  unfold cmpI at k
  refine z_d2 (fun c => ?_) (fun c => ?_)
  · rw [if_pos c] at k
    walk_at "zz"
    exact k
  · rw [if_neg c] at k
    walk_at "zz"
    refine z_d2 (fun c => ?_) (fun c => ?_)
    · rw [if_pos c] at k
      walk_at "zz"
      exact k
    · rw [if_neg c] at k
      walk_at "zz"
      exact k
theorem c_Ratio_sign (L : Lw K mg) : Met P w K mg base 1 (He.ga K "Ratio") "sign" (sp1 (fs_sgn K)) [] := by
  obtain ⟨fd, F⟩ := L.d_Ratio_sign
  exact ⟨⟨_, fd, ["self"], [], L.cl_Ratio, L.me_Ratio_sign, ok_Ratio_sign L F, F.bindsN (fun _ _ _ _ _ _ us hl => match us, hl with | [_], _ => rfl), .nil⟩⟩
theorem ok_Ratio_floor (L : Lw K mg) {fd : FuncData} (F : FunD K "floor" "Ratio.floor" (defArgs s_Ratio_floor) (defBody s_Ratio_floor) (defScope s_Ratio_floor) (df_Ratio_floor.dvs K) (df_Ratio_floor.kws K) (He.fAd K ("Ratio", some "floor")) fd) : FnOk P w K mg base (L2N.CX P w) 1 (He.fAd K ("Ratio", some "floor")) fd (["self"] : List Str) (sp1 (fs_flo K (fun p q => p / q))) := by
  refine FunD.ok F sc_Ratio_floor len1 (fun cdv A outer s H vs Q E hr h => ?_)
  obtain ⟨x, rfl, h⟩ := h
  refine ⟨_, (pss_one (ps_ret (pe_op o_div (pe_fld (pv 0) rfl) (pe_fld (pv 0) rfl)))), ?_⟩
  obtain ⟨a, p, q, rfl, ha, l1, k⟩ := h
  walk_at "zz"
  refine z_div l1.pos (l1.bq) (by decide) (by decide) ?_
  exact k
theorem c_Ratio_floor (L : Lw K mg) : Met P w K mg base 1 (He.ga K "Ratio") "floor" (sp1 (fs_flo K (fun p q => p / q))) [] := by
  obtain ⟨fd, F⟩ := L.d_Ratio_floor
  exact ⟨⟨_, fd, ["self"], [], L.cl_Ratio, L.me_Ratio_floor, ok_Ratio_floor L F, F.bindsN (fun _ _ _ _ _ _ us hl => match us, hl with | [_], _ => rfl), .nil⟩⟩
theorem ok_Ratio_ceil (L : Lw K mg) {fd : FuncData} (F : FunD K "ceil" "Ratio.ceil" (defArgs s_Ratio_ceil) (defBody s_Ratio_ceil) (defScope s_Ratio_ceil) (df_Ratio_ceil.dvs K) (df_Ratio_ceil.kws K) (He.fAd K ("Ratio", some "ceil")) fd) : FnOk P w K mg base (L2N.CX P w) 1 (He.fAd K ("Ratio", some "ceil")) fd (["self"] : List Str) (sp1 (fs_flo K (fun p q => -(-p / q)))) := by
  refine FunD.ok F sc_Ratio_ceil len1 (fun cdv A outer s H vs Q E hr h => ?_)
  obtain ⟨x, rfl, h⟩ := h
  refine ⟨_, (pss_one (ps_ret (pe_un o_neg (pe_op o_div (pe_un o_neg (pe_fld (pv 0) rfl)) (pe_fld (pv 0) rfl))))), ?_⟩
  obtain ⟨a, p, q, rfl, ha, l1, k⟩ := h
  walk_at "zz"
  refine z_div l1.pos (l1.bq) (by decide) (by decide) ?_
  walk_at "zz"
  exact k
theorem c_Ratio_ceil (L : Lw K mg) : Met P w K mg base 1 (He.ga K "Ratio") "ceil" (sp1 (fs_flo K (fun p q => -(-p / q)))) [] := by
  obtain ⟨fd, F⟩ := L.d_Ratio_ceil
  exact ⟨⟨_, fd, ["self"], [], L.cl_Ratio, L.me_Ratio_ceil, ok_Ratio_ceil L F, F.bindsN (fun _ _ _ _ _ _ us hl => match us, hl with | [_], _ => rfl), .nil⟩⟩
theorem ok_RatioD_eqD (L : Lw K mg) {fd : FuncData} (F : FunD K "__eq__" "Ratio.__eq__" (defArgs s_RatioD_eqD) (defBody s_RatioD_eqD) (defScope s_RatioD_eqD) (df_RatioD_eqD.dvs K) (df_RatioD_eqD.kws K) (He.fAd K ("Ratio", some "__eq__")) fd) : FnOk P w K mg base (L2N.CX P w) 1 (He.fAd K ("Ratio", some "__eq__")) fd (["self", "other"] : List Str) (sp2 (fs_req K)) := by
  refine FunD.ok F sc_RatioD_eqD len2 (fun cdv A outer s H vs Q E hr h => ?_)
  obtain ⟨x, y, rfl, h⟩ := h
  refine ⟨_, (pss_one (ps_ret (pe_and (pe_callB (callK rIsi (K := K) rfl call_isi) (by rfl) L.f_isinstance (by decide +kernel) (pa_cons (pv 1) (pa_cons (pe_cls L.g_Ratio) pa_nil))) (pe_and (pe_cmpR op_eq (pe_fld (pv 0) rfl) (pe_fld (pv 1) rfl) (nomark _)) (pe_one (pe_cmpR op_eq (pe_fld (pv 0) rfl) (pe_fld (pv 1) rfl) (nomark _))))))), ?_⟩
  obtain ⟨a, p, q, rfl, ha, hy⟩ := h
  rcases hy with ⟨b, r, s, rfl, hb, k⟩ | ⟨t, ht, hk, k⟩
  · walk_at "zz"
    refine z_isR L.in_Ratio L.kt_Ratio_Ratio hb ?_
    walk_at "zz"
    cases h1 : decide (p = r)
    · rw [h1] at k
      walk_at "zz"
      exact k
    · rw [h1] at k
      walk_at "zz"
      exact k
  · walk_at "zz"
    refine z_isi (.own _) ht hk ?_
    walk_at "zz"
    exact k
theorem c_RatioD_eqD (L : Lw K mg) : Met P w K mg base 1 (He.ga K "Ratio") "__eq__" (sp2 (fs_req K)) [] := by
  obtain ⟨fd, F⟩ := L.d_RatioD_eqD
  exact ⟨⟨_, fd, ["self", "other"], [], L.cl_Ratio, L.me_RatioD_eqD, ok_RatioD_eqD L F, F.bindsN (fun _ _ _ _ _ _ us hl => match us, hl with | [_, _], _ => rfl), .nil⟩⟩
theorem ok_whole_power (L : Lw K mg) {fd : FuncData} (F : FunD K "whole_power" "whole_power" (defArgs s_whole_power) (defBody s_whole_power) (defScope s_whole_power) (df_whole_power.dvs K) (df_whole_power.kws K) (He.fAd K ("whole_power", none)) fd) : FnOk P w K mg base (L2N.CX P w) 1 (He.fAd K ("whole_power", none)) fd (["number", "exponent"] : List Str) (sp2 fs_wp) := by
  refine FunD.ok F sc_whole_power len2 (fun cdv A outer s H vs Q E hr h => ?_)
  obtain ⟨x, y, rfl, h⟩ := h
  refine ⟨_, (pss_cons (ps_set (i := 2) sc_whole_power.nd rfl (by first | exact Or.inl rfl | exact Or.inr rfl) pe_int)
    (pss_cons (ps_for (passes_of rfl) rfl (pi_range3 (by rfl) L.f_range (pa_cons (pe_op o_sub (pe_bits (pv 1)) pe_int) (pa_cons (pe_un o_neg pe_int) (pa_cons (pe_un o_neg pe_int) pa_nil)))) (pg_name (i := 3) sc_whole_power.nd rfl (by first | exact Or.inl rfl | exact Or.inr rfl)) (pss_cons (ps_set (i := 2) sc_whole_power.nd rfl (by first | exact Or.inl rfl | exact Or.inr rfl) (pe_op o_rep2 (pv 2) (pv 2)))
    (pss_one (ps_if (pt_cmpR op_eq (pe_op o_mod (pe_op op_shr (pv 1) (pv 3)) pe_int) pe_int (nomark _)) (pss_one (ps_set (i := 2) sc_whole_power.nd rfl (by first | exact Or.inl rfl | exact Or.inr rfl) (pe_op o_rep2 (pv 2) (pv 0)))) pss_nil))))
    (pss_one (ps_ret (pv 2))))), ?_⟩
  obtain ⟨b, e, B, rfl, rfl, hb, he, hB, k⟩ := h
  walk_at "zz"
  have hm := nbits (n := e)
  have hm2 : Builtin.Int.intBits (e : Int) ≤ 17 := nbits_le (Nat.lt_of_le_of_lt he (by decide))
  generalize Builtin.Int.intBits (e : Int) = m at *
  refine z_foD (n := m) (by omega) (fun t σ' H' => ∃ (p : Int) (x3 : Option V), σ' = [some (.int b), some (.int (e : Int)), some (.int p), x3] ∧ H = H' ∧ p = b ^ (e / 2 ^ (m - t))) ⟨1, _, rfl, rfl, ?_⟩ ?_ ?_
  · rw [Nat.sub_zero, Nat.div_eq_of_lt hm, Int.pow_zero]
  · rintro t σ' H' ht ⟨p, x3, rfl, rfl, hp⟩
    have e1 : 2 ^ (m - t) = 2 * 2 ^ (m - t - 1) := by
      rw [← Nat.pow_succ']
      congr 1
      omega
    rw [e1, half_div] at hp
    obtain ⟨q, hq⟩ : ∃ q, q = e / 2 ^ (m - t - 1) := ⟨_, rfl⟩
    rw [← hq] at hp
    have q2 : q ≤ e := by
      rw [hq]
      exact Nat.div_le_self _ _
    have hbp : Bits (B * (q / 2) + 1) p := by
      rw [hp]
      exact bpow hb _
    have sz : B * (q / 2) + 1 + (B * (q / 2) + 1) ≤ 800000 := by
      have h1 : B * (q / 2) + B * (q / 2) = B * (q / 2 + q / 2) := by rw [Nat.mul_add]
      have h2 : B * (q / 2 + q / 2) ≤ B * e := Nat.mul_le_mul_left _ (by omega)
      omega
    have hd : (e : Int) / 2 ^ ((m : Int) - 1 - t).toNat = (q : Int) := by
      rw [show ((m : Int) - 1 - t).toNat = m - t - 1 by omega, hq, Int.natCast_ediv, Int.natCast_pow]
      rfl
    obtain ⟨b1, b2⟩ := pow_bit (b := b) (q := q)
    have ep : p * p = b ^ (q - q % 2) := by
      rw [hp]
      exact b1
    have em : e / 2 ^ (m - (t + 1)) = q := by rw [← Nat.sub_sub, ← hq]
    walk_at "zz"
    refine z_repU0 hbp hbp (by omega) ?_
    walk_at "zz"
    refine z_shrP (by omega) ?_
    rw [hd]
    walk_at "zz"
    refine z_mod (by decide) ?_
    walk_at "zz"
    have hpp : Bits (B * (q / 2) + 1 + (B * (q / 2) + 1)) (p * p) := hbp.mul hbp
    refine z_d2 (fun c => ?_) (fun c => ?_)
    · have c' : q % 2 = 1 := by omega
      walk_at "zz"
      refine z_repU0 hpp hb ?_ ?_
      · have h1 : B * (q / 2) + B * (q / 2) + B = B * (q / 2 + q / 2 + 1) := by rw [Nat.mul_add, Nat.mul_add, Nat.mul_one]
        have h2 : B * (q / 2 + q / 2 + 1) ≤ B * e := Nat.mul_le_mul_left _ (by omega)
        omega
      walk_at "zz"
      exact ⟨_, _, rfl, rfl, by rw [ep, b2 c', em]⟩
    · walk_at "zz"
      exact ⟨_, _, rfl, rfl, by rw [ep, em, show q - q % 2 = q by omega]⟩
  · rintro σ' H' ⟨p, x3, rfl, rfl, hp⟩
    rw [Nat.sub_self, Nat.pow_zero, Nat.div_one] at hp
    walk_at "zz"
    rw [hp]
    exact k
theorem c_whole_power (L : Lw K mg) : Cal P w K mg base 1 "whole_power" (sp2 fs_wp) [] := by
  obtain ⟨fd, F⟩ := L.d_whole_power
  exact ⟨⟨_, fd, ["number", "exponent"], [], ok_whole_power L F, L.g_whole_power, F.kp, F.bindsN (fun _ _ _ _ _ _ us hl => match us, hl with | [_, _], _ => rfl), .nil⟩⟩
end
end T
set_option maxHeartbeats 4000000
namespace T
open PySem PySem.Spec PyProof.Rows L2 Z
theorem pf_top {u v w : V} : putF "top" w (rF u v) = rF w v := pfA
theorem pf_bot {u v w : V} : putF "bottom" w (rF u v) = rF u w := by
  show (if ("top" : Str) = "bottom" then _ else _) = _
  rw [if_neg tb_ne]
  show _ :: putF "bottom" w [("bottom", v)] = _
  rw [pfA]
  rfl
theorem z_eqBl {x y : Bool} {H : Hp} {Q : VK} (q : Q (.bl (decide (x = y))) H) : rEq (.bl x) (.bl y) H Q := ⟨rfl, by
  have e : decide (V.bl x = V.bl y) = decide (x = y) := by rw [Bool.eq_iff_iff]; simp
  rw [e]; exact q⟩
def fs_rp (K : Frag) : F2 := fun x y H Q _ => ∃ (a : Addr) (p q : Int) (n : Nat), x = .ref a ∧ y = .int (n : Int) ∧ IsR K H a p q ∧ Lo p q ∧ n ≤ 64 ∧ ∀ c H', Same H H' → IsR K H' c (p ^ n) (q ^ n) → Q (.ref c) H'
def fs_rai (K : Frag) : F2 := fun x y H Q E => ∃ (a : Addr) (p q n : Int), x = .ref a ∧ y = .int n ∧ IsR K H a p q ∧ Lo p q ∧
  (∀ m : Nat, n = (m : Int) → m ≤ 64 → ∀ c H', Same H H' → IsR K H' c (p ^ m) (q ^ m) → Q (.ref c) H') ∧
  (¬ (0 ≤ n ∧ n ≤ 64) → ∀ d H', Same H H' → H' d = some (.xd [("value", .int n)]) → E (.ref (He.ga K "OutOfBounds")) (some d) H')
def IsPool (H : Hp) (p : Addr) : Prop := ∃ ns : List Int, H p = some (.lst (ns.map V.int))
theorem IsPool.mono {H H' : Hp} {p : Addr} (s : Same H H') (h : IsPool H p) : IsPool H' p := by
  obtain ⟨ns, h⟩ := h
  exact ⟨ns, s _ _ h⟩
def fs_cell : F2 := fun a b H Q _ => ∃ (p : Addr) (k : Int), a = .ref p ∧ b = .int k ∧ IsPool H p ∧ 0 ≤ k ∧ ∀ c, Q (.int c) H
def fs_mod : F2 := fun a b H Q _ => ∃ n m : Int, a = .int n ∧ b = .int m ∧ 0 < m ∧ Q (.int (n % m)) H
theorem u_mod {H : Hp} {Q : VK} {E : XK} {n m : Int} (h : 0 < m) (q : Q (.int (n % m)) H) : sp2 fs_mod [.int n, .int m] H Q E := ⟨_, _, rfl, n, m, rfl, rfl, h, q⟩
def fs_sig : F2 := fun a b H Q _ => ∃ (n b0 : Int), a = .int n ∧ b = .int b0 ∧ 0 < b0 ∧ b0 < 10 ^ 31 ∧ ∀ v : Int, -b0 ≤ v → v ≤ b0 → Q (.int v) H
def fs_ten : F1 := fun a H Q _ => ∃ k : Nat, a = .int (k : Int) ∧ k ≤ 400 ∧ Q (.int (((10 : Nat) ^ k : Nat) : Int)) H
def fs_gre : F2 := fun a b H Q _ => ∃ (n : Int) (k : Nat), a = .int n ∧ b = .int ((k + 1 : Nat) : Int) ∧ k + 1 ≤ 400 ∧ ∀ v : Int, 1 ≤ v → v < (((10 : Nat) ^ (k + 1) : Nat) : Int) → Q (.int v) H
def fs_low : F2 := fun a b H Q _ => ∃ (x y : Int) (B : Nat), a = .int x ∧ b = .int y ∧ y ≠ 0 ∧ Bits B y ∧ B ≤ 8990 ∧ ∀ t H', Same H H' → H' t = some (.tup [.int (rt x y), .int (rb x y)]) → Q (.ref t) H'
/-- a whole number that is due -/
def fs_who : F2 := fun a b H Q _ => ∃ n m : Int, a = .int n ∧ b = .int m ∧ Q (.bl (decide (n = m))) H
theorem u_who {H : Hp} {Q : VK} {E : XK} {n m : Int} (q : Q (.bl (decide (n = m))) H) : sp2 fs_who [.int n, .int m] H Q E := ⟨_, _, rfl, n, m, rfl, rfl, q⟩
def fs_flag : F2 := fun a b H Q _ => ∃ x y : Bool, a = .bl x ∧ b = .bl y ∧ Q (.bl (decide (x = y))) H
def fs_lis (K : Frag) : F2 := fun x y H Q _ => ∃ (a t : Addr) (p q : Int), x = .ref a ∧ y = .ref t ∧ IsR K H a p q ∧ H t = some (.tup [.int p, .int q]) ∧ Q (.bl true) H
theorem ten_bits {k : Nat} (h : k ≤ 400) : Bits 1600 (((10 : Nat) ^ k : Nat) : Int) := by
  unfold Bits
  rw [Int.natAbs_natCast]
  have e : (10 : Nat) ^ k ≤ 16 ^ k := Nat.pow_le_pow_left (by decide) k
  have e2 : (16 : Nat) ^ k = 2 ^ (4 * k) := by rw [Nat.pow_mul]
  rw [e2] at e
  have e3 : (2 : Nat) ^ (4 * k) ≤ 2 ^ 1600 := Nat.pow_le_pow_right (by decide) (by omega)
  refine Nat.lt_of_le_of_ne (Nat.le_trans e e3) ?_
  intro z
  have e4 : (10 : Nat) ^ k < 2 ^ 1600 := by
    refine Nat.lt_of_le_of_lt (Nat.pow_le_pow_right (by decide) h) ?_
    decide +kernel
  omega
local macro_rules | `(tactic| walk_at "up") => `(tactic| first
  | assumption
  | (refine' IsR.mono (by assumption) ?zup; case zup => walk_at "up")
  | (refine' IsE.mono (by assumption) ?zup; case zup => walk_at "up")
  | (refine' Same.at (by assumption) ?zup; case zup => walk_at "up")
  | (refine' SqL.of ?zup; case zup => walk_at "up")
  | (refine' L2.Same.seq (by assumption) ?zup; case zup => walk_at "up"))
local macro_rules | `(tactic| walk_at "z") => `(tactic| first
  | ((with_reducible refine' z_var ?zvh ?_); (case zvh => exact rfl))
  | with_reducible refine z_c ?_
  | with_reducible refine z_cons ?_
  | with_reducible refine z_nil ?_
  | with_reducible refine z_op ?_
  | with_reducible refine z_nx ?_
  | with_reducible refine z_seq ?_
  | with_reducible refine z_asg ?_
  | with_reducible refine z_asgG ?_
  | with_reducible refine z_call ?_
  | with_reducible refine z_sq0 ?_
  | with_reducible refine z_sq1 ?_
  | with_reducible refine z_ifS ?_
  | with_reducible refine z_test ?_
  | with_reducible refine z_tb ?_
  | with_reducible refine z_bl ?_
  | with_reducible refine z_blI ?_
  | with_reducible refine z_ret ?_
  | with_reducible refine z_rt ?_
  | with_reducible refine z_T ?_
  | with_reducible refine z_F ?_
  | with_reducible refine z_add ?_
  | with_reducible refine z_sub ?_
  | with_reducible refine z_neg ?_
  | with_reducible refine z_un ?_
  | with_reducible refine z_eqI ?_
  | with_reducible refine z_neI ?_
  | with_reducible refine z_lt ?_
  | with_reducible refine z_le ?_
  | with_reducible refine z_gt ?_
  | with_reducible refine z_ge ?_
  | with_reducible refine z_not ?_
  | with_reducible refine z_and ?_
  | with_reducible refine z_or ?_
  | with_reducible refine z_andV ?_
  | with_reducible refine z_orV ?_
  | with_reducible refine z_notV ?_
  | with_reducible refine z_if ?_
  | with_reducible refine z_cb ?_
  | with_reducible refine z_int1 ?_
  | with_reducible refine z_intb ?_
  | with_reducible refine z_abs ?_
  | with_reducible refine z_gcd ?_
  | with_reducible refine z_isi_ii ?_
  | with_reducible refine z_isi_ib ?_
  | with_reducible refine z_next ?_
  | with_reducible refine z_drop ?_
  | with_reducible refine z_par ?_
  | with_reducible refine z_par2 ?_
  | with_reducible refine z_tupN ?_
  | with_reducible refine z_lstN ?_
  | ((with_reducible refine' z_nt ?zl1 ?_); (case zl1 => exact Nat.le_of_ble_eq_true rfl); intro p H' hp hs he)
  | ((with_reducible refine' z_gtup ?zl1 ?zl2 ?_); (case zl1 => walk_at "up"); (case zl2 => exact rfl))
  | with_reducible refine z_bk ?_
  | with_reducible refine z_ct ?_
  | with_reducible refine z_break ?_
  | with_reducible refine z_cont ?_
  | with_reducible refine z_retN ?_
  | with_reducible refine z_nn ?_
  | with_reducible refine z_mk ?_
  | with_reducible refine z_gn ?_
  | with_reducible refine z_gcons ?_
  | with_reducible refine z_gnil ?_
  | with_reducible refine z_mt ?_
  | with_reducible refine z_mko ?_
  | with_reducible refine z_for2 ?_
  | with_reducible refine z_ownI ?_
  | ((with_reducible refine' z_lenL ?zl1 ?_); (case zl1 => walk_at "up"))
  | ((with_reducible refine' z_ixT ?zl1 ?zl2 ?_); (case zl1 => walk_at "up"); (case zl2 => exact rfl))
  | ((with_reducible refine' z_mulL ?zl1 ?zl2 ?_); (case zl1 => omega); (case zl2 => omega))
  | ((with_reducible refine' z_mulR ?zl1 ?zl2 ?_); (case zl1 => omega); (case zl2 => omega))
  | ((with_reducible refine' z_divS ?zl1 ?zl2 ?_); (case zl1 => omega); (case zl2 => omega))
  | ((with_reducible refine' z_mulW ?zl1 ?zl2 ?zl3 ?zl4 ?_); (case zl1 => omega); (case zl2 => omega); (case zl3 => omega); (case zl4 => omega))
  | ((with_reducible refine' z_divW ?zl1 ?zl2 ?_); (case zl1 => omega); (case zl2 => omega)))
local macro_rules | `(tactic| walk_at "zz") => `(tactic| repeat (walk_at "z"))
local macro_rules | `(tactic| walk_at "z") => `(tactic| with_reducible refine z_lstN ?_)
local macro_rules | `(tactic| walk_at "z") => `(tactic| with_reducible refine z_p6 ?_)
local macro_rules | `(tactic| walk_at "z") => `(tactic| with_reducible refine z_p12 ?_)
local macro_rules | `(tactic| walk_at "z") => `(tactic| with_reducible refine z_p13 ?_)
local macro_rules | `(tactic| walk_at "z") => `(tactic| with_reducible refine z_calln ?_)
local macro_rules | `(tactic| walk_at "z") => `(tactic| with_reducible refine z_xfS ?_)
local macro_rules | `(tactic| walk_at "z") => `(tactic| with_reducible refine z_lcS ?_)
local macro_rules | `(tactic| walk_at "z") => `(tactic| with_reducible refine z_lcRS ?_)
local macro_rules | `(tactic| walk_at "z") => `(tactic| with_reducible refine z_lcZS ?_)
local macro_rules | `(tactic| walk_at "z") => `(tactic| with_reducible refine z_foS ?_)
local macro_rules | `(tactic| walk_at "z") => `(tactic| with_reducible refine z_for1 ?_)
local macro_rules | `(tactic| walk_at "z") => `(tactic| with_reducible refine z_tsl ?_)
local macro_rules | `(tactic| walk_at "z") => `(tactic| with_reducible refine z_np ?_)
local macro_rules | `(tactic| walk_at "z") => `(tactic| with_reducible refine z_pt ?_)
local macro_rules | `(tactic| walk_at "z") => `(tactic| with_reducible refine z_pti ?_)
local macro_rules | `(tactic| walk_at "z") => `(tactic| with_reducible refine z_catI ?_)
local macro_rules | `(tactic| walk_at "z") => `(tactic| with_reducible refine z_isNI ?_)
local macro_rules | `(tactic| walk_at "z") => `(tactic| with_reducible refine z_isNN ?_)
local macro_rules | `(tactic| walk_at "z") => `(tactic| with_reducible refine z_notNI ?_)
local macro_rules | `(tactic| walk_at "z") => `(tactic| with_reducible refine z_notNN ?_)
local macro_rules | `(tactic| walk_at "z") => `(tactic| with_reducible refine z_gsub ?_)
local macro_rules | `(tactic| walk_at "z") => `(tactic| with_reducible refine z_isNb ?_)
local macro_rules | `(tactic| walk_at "z") => `(tactic| with_reducible refine z_notNb ?_)
local macro_rules | `(tactic| walk_at "z") => `(tactic| ((with_reducible refine' z_nlR ?zl1 ?_); (case zl1 => exact Nat.le_of_ble_eq_true rfl); intro p H' hp hs he))
local macro_rules | `(tactic| walk_at "z") => `(tactic| ((with_reducible refine' z_repR ?zl1 ?zl2 ?_); (case zl1 => omega); (case zl2 => omega)))
local macro_rules | `(tactic| walk_at "z") => `(tactic| ((with_reducible refine' z_repL ?zl1 ?zl2 ?_); (case zl1 => omega); (case zl2 => omega)))
local macro_rules | `(tactic| walk_at "z") => `(tactic| ((with_reducible refine' z_lenLst ?zl1 ?_); (case zl1 => walk_at "up")))
local macro_rules | `(tactic| walk_at "z") => `(tactic| ((with_reducible refine' z_cat ?zl1 ?zl2 ?zl3 ?_); (case zl1 => walk_at "up"); (case zl2 => walk_at "up"); (case zl3 => (simp only [List.length_map, List.length_cons, List.length_nil, List.length_append, List.length_replicate]; omega)); intro p H' hp hs he))
local macro_rules | `(tactic| walk_at "z") => `(tactic| with_reducible refine z_sfl ?_)
local macro_rules | `(tactic| walk_at "z") => `(tactic| with_reducible refine z_lcES ?_)
local macro_rules | `(tactic| walk_at "z") => `(tactic| with_reducible refine z_lcMS ?_)
local macro_rules | `(tactic| walk_at "z") => `(tactic| with_reducible refine z_foES ?_)
local macro_rules | `(tactic| walk_at "z") => `(tactic| with_reducible refine z_fo3S ?_)
local macro_rules | `(tactic| walk_at "z") => `(tactic| with_reducible refine z_sta ?_)
local macro_rules | `(tactic| walk_at "z") => `(tactic| with_reducible refine z_sta1 ?_)
local macro_rules | `(tactic| walk_at "z") => `(tactic| ((with_reducible refine' z_fldt ?zc1 ?zc2 ?zl1 ?zl2 ?_); (case zc1 => exact Lw.cl_Ratio (by assumption)); (case zc2 => exact Lw.na_Ratio_top (by assumption)); (case zl1 => exact rfl); (case zl2 => walk_at "up")))
local macro_rules | `(tactic| walk_at "z") => `(tactic| ((with_reducible refine' z_fldb ?zc1 ?zc2 ?zl1 ?zl2 ?_); (case zc1 => exact Lw.cl_Ratio (by assumption)); (case zc2 => exact Lw.na_Ratio_bottom (by assumption)); (case zl1 => exact rfl); (case zl2 => walk_at "up")))
local macro_rules | `(tactic| walk_at "z") => `(tactic| with_reducible refine z_c3I ?_)
local macro_rules | `(tactic| walk_at "z") => `(tactic| with_reducible refine z_r2I ?_)
local macro_rules | `(tactic| walk_at "z") => `(tactic| with_reducible refine z_for3 ?_)
local macro_rules | `(tactic| walk_at "z") => `(tactic| with_reducible refine z_tbits ?_)
local macro_rules | `(tactic| walk_at "z") => `(tactic| with_reducible refine z_tbi ?_)
local macro_rules | `(tactic| walk_at "z") => `(tactic| ((with_reducible refine' u_mod ?zl1 ?_); (case zl1 => omega)))
local macro_rules | `(tactic| walk_at "z") => `(tactic| with_reducible refine u_who ?_)
local macro_rules | `(tactic| walk_at "z") => `(tactic| with_reducible refine z_asg2 ?_)
theorem same00c {H H1 H2 : Hp} (h : Same H1 H2) (e : Same H H1) : Same H H2 := e.trans h
local macro_rules | `(tactic| walk_at "sm") => `(tactic| first
  | assumption
  | exact fun _ _ h => h
  | (refine' same00c (by assumption) ?zsm; case zsm => walk_at "sm"))
local macro_rules | `(tactic| walk_at "up") => `(tactic| first
  | assumption
  | (with_reducible refine' IsR.mono (by assumption) ?zup; case zup => walk_at "up")
  | (with_reducible refine' Same.at (by assumption) ?zup; case zup => walk_at "up")
  | (with_reducible refine' IsPool.mono (by assumption) ?zup; case zup => walk_at "up")
  | fail)
section
variable {P : Program} {w : World} {K : Frag} {mg : Str → Option Value} {base : Heap}
theorem ok_ratio_power (L : Lw K mg) {fd : FuncData} (F : FunD K "ratio_power" "ratio_power" (defArgs s_ratio_power) (defBody s_ratio_power) (defScope s_ratio_power) (df_ratio_power.dvs K) (df_ratio_power.kws K) (He.fAd K ("ratio_power", none)) fd) : FnOk P w K mg base (L2N.CX P w) 3 (He.fAd K ("ratio_power", none)) fd (["ratio", "exponent"] : List Str) (sp2 (fs_rp K)) := by
  refine FunD.ok F sc_ratio_power len2 (fun cdv A outer s H vs Q E hr h => ?_)
  obtain ⟨x, y, rfl, h⟩ := h
  refine ⟨_, (pss_cons (ps_set (i := 2) sc_ratio_power.nd rfl (by first | exact Or.inl rfl | exact Or.inr rfl) (pe_mk (c1_RatioD_initD (K := K) L) hr (by decide) (L2N.takes_of rfl rfl rfl rfl) (pa_cons pe_int pa_nil)))
    (pss_cons (ps_fld (pv 2) (pe_c (c_whole_power (K := K) L) hr (by decide) (L2N.takes_of rfl rfl rfl rfl) (pa_cons (pe_fld (pv 0) rfl) (pa_cons (pv 1) pa_nil))) rfl)
    (pss_cons (ps_fld (pv 2) (pe_c (c_whole_power (K := K) L) hr (by decide) (L2N.takes_of rfl rfl rfl rfl) (pa_cons (pe_fld (pv 0) rfl) (pa_cons (pv 1) pa_nil))) rfl)
    (pss_one (ps_ret (pv 2)))))), ?_⟩
  rw [show L2.start (["ratio", "exponent", "power"] : List Str) [x, y] = [some x, some y, none] from rfl]
  obtain ⟨a, p, q, n, rfl, rfl, ha, l1, hn, k⟩ := h
  try dsimp only [List.set]
  walk_at "zz"
  intro x dx hx hdx ne
  refine ⟨_, _, _, rfl, x, dx, H, 1, 1, rfl, rfl, rfl, rfl, hx, hdx, ne, bits_up (bits_of (by decide) (by decide)) (by decide), fun _ H1 s1 hc => ⟨rfl, ?_⟩, fun z => absurd z (by decide)⟩
  obtain ⟨dx2, hx2⟩ := hc
  try dsimp only [List.set]
  walk_at "zz"
  refine u_wp l1.bp (by omega) (by omega) ?_
  refine z_sflp L.cl_Ratio L.na_Ratio_top (by rfl) hx2 (by show 2 < 1000; decide) ?_
  rw [pf_top]
  have s2 : Same H (upd H1 x (.ins (He.ga K "Ratio") dx2 (rF (.int (p ^ n)) (.int (rb 1 1))))) := fun y o hy => by
    rw [upd_ne (ne_of_none hy hx)]
    exact s1 _ _ hy
  try dsimp only [List.set]
  walk_at "zz"
  refine u_wp l1.bq (by omega) (by omega) ?_
  refine z_sflp L.cl_Ratio L.na_Ratio_bottom (by rfl) upd_same (by show 2 < 1000; decide) ?_
  rw [pf_bot]
  try dsimp only [List.set]
  walk_at "zz"
  refine k x _ (fun y o hy => ?_) ⟨dx2, upd_same⟩
  rw [upd_ne (ne_of_none hy hx)]
  exact s2 _ _ hy
theorem c_ratio_power (L : Lw K mg) : Cal P w K mg base 3 "ratio_power" (sp2 (fs_rp K)) [] := by
  obtain ⟨fd, F⟩ := L.d_ratio_power
  exact ⟨⟨_, fd, ["ratio", "exponent"], [], ok_ratio_power L F, L.g_ratio_power, F.kp, F.bindsN (fun _ _ _ _ _ _ us hl => match us, hl with | [_, _], _ => rfl), .nil⟩⟩
theorem ok_Ratio_raised (L : Lw K mg) {fd : FuncData} (F : FunD K "raised" "Ratio.raised" (defArgs s_Ratio_raised) (defBody s_Ratio_raised) (defScope s_Ratio_raised) (df_Ratio_raised.dvs K) (df_Ratio_raised.kws K) (He.fAd K ("Ratio", some "raised")) fd) : FnOk P w K mg base (L2N.CX P w) 4 (He.fAd K ("Ratio", some "raised")) fd (["self", "n"] : List Str) (sp2 (fs_rai K)) := by
  refine FunD.ok F sc_Ratio_raised len2 (fun cdv A outer s H vs Q E hr h => ?_)
  obtain ⟨x, y, rfl, h⟩ := h
  refine ⟨_, (pss_cons (ps_expr (pe_c (c_check_number (K := K) L) hr (by decide) (L2N.takes_of rfl rfl rfl rfl) (pa_cons (pv 1) (pa_cons pe_int (pa_cons pe_int pa_nil)))))
    (pss_one (ps_ret (pe_c (c_ratio_power (K := K) L) hr (by decide) (L2N.takes_of rfl rfl rfl rfl) (pa_cons (pv 0) (pa_cons (pv 1) pa_nil)))))), ?_⟩
  obtain ⟨a, p, q, n, rfl, rfl, ha, l1, k, kx⟩ := h
  walk_at "zz"
  refine ⟨_, _, _, rfl, n, 0, rfl, rfl, .inr ⟨64, rfl⟩, fun hn => ?_, fun hn d H' s e => ?_⟩
  · have h64 := hn.2 64 rfl
    obtain ⟨m, rfl⟩ : ∃ m : Nat, n = (m : Int) := ⟨n.toNat, by omega⟩
    walk_at "zz"
    exact ⟨_, _, rfl, a, p, q, m, rfl, rfl, ha, l1, by omega, fun c H' s h => k m rfl (by omega) c H' s h⟩
  · exact kx (fun z => hn ⟨z.1, fun h e => by cases e; exact z.2⟩) d H' s e
theorem c_Ratio_raised (L : Lw K mg) : Met P w K mg base 4 (He.ga K "Ratio") "raised" (sp2 (fs_rai K)) [] := by
  obtain ⟨fd, F⟩ := L.d_Ratio_raised
  exact ⟨⟨_, fd, ["self", "n"], [], L.cl_Ratio, L.me_Ratio_raised, ok_Ratio_raised L F, F.bindsN (fun _ _ _ _ _ _ us hl => match us, hl with | [_, _], _ => rfl), .nil⟩⟩
theorem ok_law_cell (L : Lw K mg) {fd : FuncData} (F : FunD K "_law_cell" "_law_cell" (defArgs s_law_cell) (defBody s_law_cell) (defScope s_law_cell) (df_law_cell.dvs K) (df_law_cell.kws K) (He.fAd K ("_law_cell", none)) fd) : FnOk P w K mg base (L2N.CX P w) 1 (He.fAd K ("_law_cell", none)) fd (["script", "k"] : List Str) (sp2 fs_cell) := by
  refine FunD.ok F sc_law_cell len2 (fun cdv A outer s H vs Q E hr h => ?_)
  obtain ⟨a, b, rfl, h⟩ := h
  refine ⟨_, (pss_cons (ps_if (pt_cmpR o_lt (pv 1) (pe_callB (callK rLen1 (K := K) rfl o_len) (by rfl) L.f_len (by decide +kernel) (pa_cons (pv 0) pa_nil)) (nomark _)) (pss_one (ps_ret (pe_ix (ix_seqK (K := K) rfl) (pv 0) (pv 1) (fun _ _ => rfl)))) pss_nil)
    (pss_one (ps_ret pe_int))), ?_⟩
  obtain ⟨p, k, rfl, rfl, ⟨ns, hp⟩, k0, q⟩ := h
  walk_at "zz"
  refine z_d2 (fun c => ?_) (fun c => ?_)
  · walk_at "zz"
    refine z_ixL (SqL.of hp) (cell_at k0 c) ?_
    exact q _
  · walk_at "zz"
    exact q _
theorem c_law_cell (L : Lw K mg) : Cal P w K mg base 1 "_law_cell" (sp2 fs_cell) [] := by
  obtain ⟨fd, F⟩ := L.d_law_cell
  exact ⟨⟨_, fd, ["script", "k"], [], ok_law_cell L F, L.g_law_cell, F.kp, F.bindsN (fun _ _ _ _ _ _ us hl => match us, hl with | [_, _], _ => rfl), .nil⟩⟩
theorem ok_law_mod (L : Lw K mg) {fd : FuncData} (F : FunD K "_law_mod" "_law_mod" (defArgs s_law_mod) (defBody s_law_mod) (defScope s_law_mod) (df_law_mod.dvs K) (df_law_mod.kws K) (He.fAd K ("_law_mod", none)) fd) : FnOk P w K mg base (L2N.CX P w) 1 (He.fAd K ("_law_mod", none)) fd (["number", "size"] : List Str) (sp2 fs_mod) := by
  refine FunD.ok F sc_law_mod len2 (fun cdv A outer s H vs Q E hr h => ?_)
  obtain ⟨a, b, rfl, h⟩ := h
  refine ⟨_, (pss_one (ps_ret (pe_op o_mod (pe_callTy o_int1 (by rfl) L.f_int (by decide +kernel) (pa_cons (pv 0) pa_nil)) (pv 1)))), ?_⟩
  obtain ⟨n, m, rfl, rfl, h, q⟩ := h
  walk_at "zz"
  refine z_mod h ?_
  exact q
theorem c_law_mod (L : Lw K mg) : Cal P w K mg base 1 "_law_mod" (sp2 fs_mod) [] := by
  obtain ⟨fd, F⟩ := L.d_law_mod
  exact ⟨⟨_, fd, ["number", "size"], [], ok_law_mod L F, L.g_law_mod, F.kp, F.bindsN (fun _ _ _ _ _ _ us hl => match us, hl with | [_, _], _ => rfl), .nil⟩⟩
theorem ok_law_signed (L : Lw K mg) {fd : FuncData} (F : FunD K "_law_signed" "_law_signed" (defArgs s_law_signed) (defBody s_law_signed) (defScope s_law_signed) (df_law_signed.dvs K) (df_law_signed.kws K) (He.fAd K ("_law_signed", none)) fd) : FnOk P w K mg base (L2N.CX P w) 2 (He.fAd K ("_law_signed", none)) fd (["number", "bound"] : List Str) (sp2 fs_sig) := by
  refine FunD.ok F sc_law_signed len2 (fun cdv A outer s H vs Q E hr h => ?_)
  obtain ⟨a, b, rfl, h⟩ := h
  refine ⟨_, (pss_cons (ps_set (i := 2) sc_law_signed.nd rfl (by first | exact Or.inl rfl | exact Or.inr rfl) (pe_c (c_law_mod (K := K) L) hr (by decide) (L2N.takes_of rfl rfl rfl rfl) (pa_cons (pv 0) (pa_cons (pe_op o_cat3 (pe_op o_rep2 pe_int (pv 1)) pe_int) pa_nil))))
    (pss_cons (ps_if (pt_cmpR op_eq (pe_c (c_law_mod (K := K) L) hr (by decide) (L2N.takes_of rfl rfl rfl rfl) (pa_cons (pv 2) (pa_cons pe_int pa_nil))) pe_int (nomark _)) (pss_one (ps_ret (pe_op o_div (pe_op o_cat3 (pv 2) pe_int) pe_int))) pss_nil)
    (pss_one (ps_ret (pe_un o_neg (pe_op o_div (pv 2) pe_int)))))), ?_⟩
  rw [show L2.start (["number", "bound", "place"] : List Str) [a, b] = [some a, some b, none] from rfl]
  obtain ⟨n, b0, rfl, rfl, h0, h1, q⟩ := h
  try dsimp only [List.set]
  walk_at "zz"
  have m0 := Int.emod_nonneg n (show 2 * b0 + 1 ≠ 0 by omega)
  have m1 := Int.emod_lt_of_pos n (show 0 < 2 * b0 + 1 by omega)
  generalize n % (2 * b0 + 1) = mm at *
  refine z_d2 (fun c => ?_) (fun c => ?_)
  · try dsimp only [List.set]
    walk_at "zz"
    exact q _ (by omega) (by omega)
  · try dsimp only [List.set]
    walk_at "zz"
    exact q _ (by omega) (by omega)
theorem c_law_signed (L : Lw K mg) : Cal P w K mg base 2 "_law_signed" (sp2 fs_sig) [] := by
  obtain ⟨fd, F⟩ := L.d_law_signed
  exact ⟨⟨_, fd, ["number", "bound"], [], ok_law_signed L F, L.g_law_signed, F.kp, F.bindsN (fun _ _ _ _ _ _ us hl => match us, hl with | [_, _], _ => rfl), .nil⟩⟩
theorem ok_law_ten (L : Lw K mg) {fd : FuncData} (F : FunD K "_law_ten" "_law_ten" (defArgs s_law_ten) (defBody s_law_ten) (defScope s_law_ten) (df_law_ten.dvs K) (df_law_ten.kws K) (He.fAd K ("_law_ten", none)) fd) : FnOk P w K mg base (L2N.CX P w) 1 (He.fAd K ("_law_ten", none)) fd (["count"] : List Str) (sp1 fs_ten) := by
  refine FunD.ok F sc_law_ten len1 (fun cdv A outer s H vs Q E hr h => ?_)
  obtain ⟨a, rfl, h⟩ := h
  refine ⟨_, (pss_cons (ps_set (i := 1) sc_law_ten.nd rfl (by first | exact Or.inl rfl | exact Or.inr rfl) pe_int)
    (pss_cons (ps_for (passes_of rfl) rfl (pi_range1 (by rfl) L.f_range (pa_cons (pv 0) pa_nil)) (pg_name (i := 2) sc_law_ten.nd rfl (by first | exact Or.inl rfl | exact Or.inr rfl)) (pss_one (ps_set (i := 1) sc_law_ten.nd rfl (by first | exact Or.inl rfl | exact Or.inr rfl) (pe_op o_rep2 (pv 1) pe_int))))
    (pss_one (ps_ret (pv 1))))), ?_⟩
  rw [show L2.start (["count", "power", "k"] : List Str) [a] = [some a, none, none] from rfl]
  obtain ⟨k, rfl, hk, q⟩ := h
  try dsimp only [List.set]
  walk_at "zz"
  refine z_foR (n := (k : Int)) (by omega) (by omega) (fun i σ' H' => ∃ (x2 : Option V), σ' = [some (.int (k : Int)), some (.int (((10 : Nat) ^ i : Nat) : Int)), x2] ∧ H = H') ⟨_, rfl, rfl⟩ ?_ ?_
  · rintro i σ' H' hi ⟨x2, rfl, rfl⟩
    try dsimp only [List.set]
    walk_at "zz"
    refine ⟨some (.int (i : Int)), ?_, rfl⟩
    rw [Nat.pow_succ, Int.natCast_mul]
    rfl
  · rintro σ' H' ⟨x2, rfl, rfl⟩
    try dsimp only [List.set]
    walk_at "zz"
    exact q
theorem c_law_ten (L : Lw K mg) : Cal P w K mg base 1 "_law_ten" (sp1 fs_ten) [] := by
  obtain ⟨fd, F⟩ := L.d_law_ten
  exact ⟨⟨_, fd, ["count"], [], ok_law_ten L F, L.g_law_ten, F.kp, F.bindsN (fun _ _ _ _ _ _ us hl => match us, hl with | [_], _ => rfl), .nil⟩⟩
theorem ok_law_great (L : Lw K mg) {fd : FuncData} (F : FunD K "_law_great" "_law_great" (defArgs s_law_great) (defBody s_law_great) (defScope s_law_great) (df_law_great.dvs K) (df_law_great.kws K) (He.fAd K ("_law_great", none)) fd) : FnOk P w K mg base (L2N.CX P w) 2 (He.fAd K ("_law_great", none)) fd (["cell", "digits"] : List Str) (sp2 fs_gre) := by
  refine FunD.ok F sc_law_great len2 (fun cdv A outer s H vs Q E hr h => ?_)
  obtain ⟨a, b, rfl, h⟩ := h
  refine ⟨_, (pss_one (ps_ret (pe_op o_sub (pe_op o_sub (pe_c (c_law_ten (K := K) L) hr (by decide) (L2N.takes_of rfl rfl rfl rfl) (pa_cons (pv 1) pa_nil)) pe_int) (pe_c (c_law_mod (K := K) L) hr (by decide) (L2N.takes_of rfl rfl rfl rfl) (pa_cons (pv 0) (pa_cons (pe_c (c_law_ten (K := K) L) hr (by decide) (L2N.takes_of rfl rfl rfl rfl) (pa_cons (pe_op o_sub (pv 1) pe_int) pa_nil)) pa_nil)))))), ?_⟩
  obtain ⟨n, k, rfl, rfl, hk, q⟩ := h
  walk_at "zz"
  refine ⟨_, rfl, k + 1, rfl, hk, ?_⟩
  walk_at "zz"
  rw [show ((k + 1 : Nat) : Int) - 1 = (k : Int) by omega]
  refine ⟨_, rfl, k, rfl, by omega, ?_⟩
  have t0 : 0 < (((10 : Nat) ^ k : Nat) : Int) := by
    have := Nat.pow_pos (n := k) (show 0 < 10 by decide)
    omega
  have t1 : (((10 : Nat) ^ (k + 1) : Nat) : Int) = 10 * (((10 : Nat) ^ k : Nat) : Int) := by
    rw [Nat.pow_succ, Int.natCast_mul, Int.mul_comm]
    rfl
  walk_at "zz"
  have m0 := Int.emod_nonneg n (show (((10 : Nat) ^ k : Nat) : Int) ≠ 0 by omega)
  have m1 := Int.emod_lt_of_pos n t0
  exact q _ (by omega) (by omega)
theorem c_law_great (L : Lw K mg) : Cal P w K mg base 2 "_law_great" (sp2 fs_gre) [] := by
  obtain ⟨fd, F⟩ := L.d_law_great
  exact ⟨⟨_, fd, ["cell", "digits"], [], ok_law_great L F, L.g_law_great, F.kp, F.bindsN (fun _ _ _ _ _ _ us hl => match us, hl with | [_, _], _ => rfl), .nil⟩⟩
theorem ok_law_low (L : Lw K mg) {fd : FuncData} (F : FunD K "_law_low" "_law_low" (defArgs s_law_low) (defBody s_law_low) (defScope s_law_low) (df_law_low.dvs K) (df_law_low.kws K) (He.fAd K ("_law_low", none)) fd) : FnOk P w K mg base (L2N.CX P w) 2 (He.fAd K ("_law_low", none)) fd (["top", "bottom"] : List Str) (sp2 fs_low) := by
  refine FunD.ok F sc_law_low len2 (fun cdv A outer s H vs Q E hr h => ?_)
  obtain ⟨a, b, rfl, h⟩ := h
  refine ⟨_, (pss_cons (ps_if (pt_cmpR o_lt (pv 1) pe_int (nomark _)) (pss_cons (ps_set (i := 0) sc_law_low.nd rfl (by first | exact Or.inl rfl | exact Or.inr rfl) (pe_un o_neg (pv 0)))
    (pss_one (ps_set (i := 1) sc_law_low.nd rfl (by first | exact Or.inl rfl | exact Or.inr rfl) (pe_un o_neg (pv 1))))) pss_nil)
    (pss_cons (ps_set (i := 2) sc_law_low.nd rfl (by first | exact Or.inl rfl | exact Or.inr rfl) (pe_callB o_abs (by rfl) L.f_abs (by decide +kernel) (pa_cons (pv 0) pa_nil)))
    (pss_cons (ps_set (i := 3) sc_law_low.nd rfl (by first | exact Or.inl rfl | exact Or.inr rfl) (pv 1))
    (pss_cons (ps_while (passes_of rfl) (pt_cmpR op_ne (pv 3) pe_int (nomark _)) (pss_cons (ps_set (i := 4) sc_law_low.nd rfl (by first | exact Or.inl rfl | exact Or.inr rfl) (pe_c (c_law_mod (K := K) L) hr (by decide) (L2N.takes_of rfl rfl rfl rfl) (pa_cons (pv 2) (pa_cons (pv 3) pa_nil))))
    (pss_cons (ps_set (i := 2) sc_law_low.nd rfl (by first | exact Or.inl rfl | exact Or.inr rfl) (pv 3))
    (pss_one (ps_set (i := 3) sc_law_low.nd rfl (by first | exact Or.inl rfl | exact Or.inr rfl) (pv 4))))))
    (pss_one (ps_ret (pe_tup (pa_cons (pe_op o_div (pv 0) (pv 2)) (pa_cons (pe_op o_div (pv 1) (pv 2)) pa_nil))))))))), ?_⟩
  rw [show L2.start (["top", "bottom", "one", "two", "rest"] : List Str) [a, b] = [some a, some b, none, none, none] from rfl]
  obtain ⟨x, y, B, rfl, rfl, y0, bB, hB, k⟩ := h
  try dsimp only [List.set]
  walk_at "zz"
  refine z_d2 (fun c => ?_) (fun c => ?_)
  · obtain ⟨m, hm⟩ : ∃ m : Nat, -y = (m : Int) := ⟨(-y).toNat, by omega⟩
    obtain ⟨e1, e2⟩ := rt_neg (n := x) (d := y) c
    obtain ⟨ex, ey⟩ := rt_pos (n := -x) (d := -y) (by omega)
    rw [← e1] at ex
    rw [← e2] at ey
    have bm : Bits B (m : Int) := by
      rw [← hm]
      exact bB.neg
    rw [hm] at ex ey
    try dsimp only [List.set]
    walk_at "zz"
    rw [hm]
    try dsimp only [List.set]
    walk_at "zz"
    refine z_while (fun v σ' H' => ∃ (a b : Nat) (x4 : Option V), σ' = [some (.int (-x)), some (.int (m : Int)), some (.int (a : Int)), some (.int (b : Int)), x4] ∧ H = H' ∧ Nat.gcd a b = Int.gcd (-x) (m : Int) ∧ b = v) m ⟨(-x).natAbs, m, _, rfl, rfl, rfl, rfl⟩ ?_
    rintro v σ' H' ⟨a, b, x4, rfl, rfl, hg, rfl⟩
    try dsimp only [List.set]
    walk_at "zz"
    refine z_d2 (fun c0 => ?_) (fun c0 => ?_)
    · have b0 : b = 0 := by omega
      subst b0
      have e0 : a = Int.gcd (-x) (m : Int) := by rw [← hg, Nat.gcd_zero_right]
      have bg : Bits (B + 1) (a : Int) := by
        rw [e0]
        exact Bits.up (Bits.gcd bm (by omega)) (Nat.le_succ B)
      have a0 : 0 < (a : Int) := by
        rw [e0]
        have := Int.gcd_pos_of_ne_zero_right (-x) (show (m : Int) ≠ 0 by omega)
        omega
      try dsimp only [List.set]
      walk_at "zz"
      refine z_div a0 bg (Nat.succ_pos B) (by omega) ?_
      try dsimp only [List.set]
      walk_at "zz"
      refine z_div a0 bg (Nat.succ_pos B) (by omega) ?_
      try dsimp only [List.set]
      walk_at "zz"
      refine k _ _ (by walk_at "sm") ?_
      rw [ex, ey, ← e0]
      assumption
    · refine ⟨_, fun _ _ h => h, ?_⟩
      try dsimp only [List.set]
      walk_at "zz"
      exact ⟨a % b, Nat.mod_lt _ (by omega), b, a % b, _, by rw [Int.natCast_emod] <;> rfl, rfl, by rw [← hg, Nat.gcd_comm b, ← Nat.gcd_rec, Nat.gcd_comm], rfl⟩
  · obtain ⟨m, rfl⟩ : ∃ m : Nat, y = (m : Int) := ⟨y.toNat, by omega⟩
    obtain ⟨ex, ey⟩ := rt_pos (n := x) (d := (m : Int)) (by omega)
    have bm := bB
    try dsimp only [List.set]
    walk_at "zz"
    refine z_while (fun v σ' H' => ∃ (a b : Nat) (x4 : Option V), σ' = [some (.int (x)), some (.int (m : Int)), some (.int (a : Int)), some (.int (b : Int)), x4] ∧ H = H' ∧ Nat.gcd a b = Int.gcd (x) (m : Int) ∧ b = v) m ⟨(x).natAbs, m, _, rfl, rfl, rfl, rfl⟩ ?_
    rintro v σ' H' ⟨a, b, x4, rfl, rfl, hg, rfl⟩
    try dsimp only [List.set]
    walk_at "zz"
    refine z_d2 (fun c0 => ?_) (fun c0 => ?_)
    · have b0 : b = 0 := by omega
      subst b0
      have e0 : a = Int.gcd (x) (m : Int) := by rw [← hg, Nat.gcd_zero_right]
      have bg : Bits (B + 1) (a : Int) := by
        rw [e0]
        exact Bits.up (Bits.gcd bm (by omega)) (Nat.le_succ B)
      have a0 : 0 < (a : Int) := by
        rw [e0]
        have := Int.gcd_pos_of_ne_zero_right (x) (show (m : Int) ≠ 0 by omega)
        omega
      try dsimp only [List.set]
      walk_at "zz"
      refine z_div a0 bg (Nat.succ_pos B) (by omega) ?_
      try dsimp only [List.set]
      walk_at "zz"
      refine z_div a0 bg (Nat.succ_pos B) (by omega) ?_
      try dsimp only [List.set]
      walk_at "zz"
      refine k _ _ (by walk_at "sm") ?_
      rw [ex, ey, ← e0]
      assumption
    · refine ⟨_, fun _ _ h => h, ?_⟩
      try dsimp only [List.set]
      walk_at "zz"
      exact ⟨a % b, Nat.mod_lt _ (by omega), b, a % b, _, by rw [Int.natCast_emod] <;> rfl, rfl, by rw [← hg, Nat.gcd_comm b, ← Nat.gcd_rec, Nat.gcd_comm], rfl⟩
theorem c_law_low (L : Lw K mg) : Cal P w K mg base 2 "_law_low" (sp2 fs_low) [] := by
  obtain ⟨fd, F⟩ := L.d_law_low
  exact ⟨⟨_, fd, ["top", "bottom"], [], ok_law_low L F, L.g_law_low, F.kp, F.bindsN (fun _ _ _ _ _ _ us hl => match us, hl with | [_, _], _ => rfl), .nil⟩⟩
theorem ok_law_whole (L : Lw K mg) {fd : FuncData} (F : FunD K "_law_whole" "_law_whole" (defArgs s_law_whole) (defBody s_law_whole) (defScope s_law_whole) (df_law_whole.dvs K) (df_law_whole.kws K) (He.fAd K ("_law_whole", none)) fd) : FnOk P w K mg base (L2N.CX P w) 1 (He.fAd K ("_law_whole", none)) fd (["actual", "due"] : List Str) (sp2 fs_who) := by
  refine FunD.ok F sc_law_whole len2 (fun cdv A outer s H vs Q E hr h => ?_)
  obtain ⟨a, b, rfl, h⟩ := h
  refine ⟨_, (pss_one (ps_ret (pe_and (pe_callB (callK rIsi (K := K) rfl call_isi) (by rfl) L.f_isinstance (by decide +kernel) (pa_cons (pv 0) (pa_cons (pe_ty "int" (by rfl) L.f_int (by decide +kernel)) pa_nil))) (pe_and (pe_not (pe_callB (callK rIsi (K := K) rfl call_isi) (by rfl) L.f_isinstance (by decide +kernel) (pa_cons (pv 0) (pa_cons (pe_ty "bool" (by rfl) L.f_bool (by decide +kernel)) pa_nil)))) (pe_one (pe_cmpR op_eq (pv 0) (pv 1) (nomark _))))))), ?_⟩
  obtain ⟨n, m, rfl, rfl, q⟩ := h
  walk_at "zz"
  exact q
theorem c_law_whole (L : Lw K mg) : Cal P w K mg base 1 "_law_whole" (sp2 fs_who) [] := by
  obtain ⟨fd, F⟩ := L.d_law_whole
  exact ⟨⟨_, fd, ["actual", "due"], [], ok_law_whole L F, L.g_law_whole, F.kp, F.bindsN (fun _ _ _ _ _ _ us hl => match us, hl with | [_, _], _ => rfl), .nil⟩⟩
theorem ch_law_whole (L : Lw K mg) : CalH P w K mg base 1 "_law_whole" (sp2 fs_who) := by
  obtain ⟨fd, F⟩ := L.d_law_whole
  refine ⟨_, fd, ["actual", "due"], okH F sc_law_whole len2 (fun cdv A outer s H vs Q E p hot1 hrH h => ?_), L.g_law_whole, F.kp, F.bindsN (fun _ _ _ _ _ _ us hl => match us, hl with | [_, _], _ => rfl)⟩
  obtain ⟨a, b, rfl, h⟩ := h
  refine ⟨_, (pss_one (ps_ret (pe_and (pe_callB (callK rIsi (K := K) rfl call_isi) (by rfl) L.f_isinstance (by decide +kernel) (pa_cons (pv 0) (pa_cons (pe_ty "int" (by rfl) L.f_int (by decide +kernel)) pa_nil))) (pe_and (pe_not (pe_callB (callK rIsi (K := K) rfl call_isi) (by rfl) L.f_isinstance (by decide +kernel) (pa_cons (pv 0) (pa_cons (pe_ty "bool" (by rfl) L.f_bool (by decide +kernel)) pa_nil)))) (pe_one (pe_cmpR op_eq (pv 0) (pv 1) (nomark _))))))), ?_⟩
  obtain ⟨n, m, rfl, rfl, q⟩ := h
  walk_at "zz"
  exact q
theorem ok_law_flag (L : Lw K mg) {fd : FuncData} (F : FunD K "_law_flag" "_law_flag" (defArgs s_law_flag) (defBody s_law_flag) (defScope s_law_flag) (df_law_flag.dvs K) (df_law_flag.kws K) (He.fAd K ("_law_flag", none)) fd) : FnOk P w K mg base (L2N.CX P w) 1 (He.fAd K ("_law_flag", none)) fd (["actual", "due"] : List Str) (sp2 fs_flag) := by
  refine FunD.ok F sc_law_flag len2 (fun cdv A outer s H vs Q E hr h => ?_)
  obtain ⟨a, b, rfl, h⟩ := h
  refine ⟨_, (pss_one (ps_ret (pe_and (pe_callB (callK rIsi (K := K) rfl call_isi) (by rfl) L.f_isinstance (by decide +kernel) (pa_cons (pv 0) (pa_cons (pe_ty "bool" (by rfl) L.f_bool (by decide +kernel)) pa_nil))) (pe_one (pe_cmpR op_eq (pv 0) (pv 1) (nomark _)))))), ?_⟩
  obtain ⟨x, y, rfl, rfl, q⟩ := h
  walk_at "zz"
  refine z_isiB (b := true) (by decide +kernel) ?_
  walk_at "zz"
  exact z_eqBl q
theorem c_law_flag (L : Lw K mg) : Cal P w K mg base 1 "_law_flag" (sp2 fs_flag) [] := by
  obtain ⟨fd, F⟩ := L.d_law_flag
  exact ⟨⟨_, fd, ["actual", "due"], [], ok_law_flag L F, L.g_law_flag, F.kp, F.bindsN (fun _ _ _ _ _ _ us hl => match us, hl with | [_, _], _ => rfl), .nil⟩⟩
theorem ok_law_is (L : Lw K mg) {fd : FuncData} (F : FunD K "_law_is" "_law_is" (defArgs s_law_is) (defBody s_law_is) (defScope s_law_is) (df_law_is.dvs K) (df_law_is.kws K) (He.fAd K ("_law_is", none)) fd) : FnOk P w K mg base (L2N.CX P w) 2 (He.fAd K ("_law_is", none)) fd (["actual", "due"] : List Str) (sp2 (fs_lis K)) := by
  refine FunD.ok F sc_law_is len2 (fun cdv A outer s H vs Q E hr h => ?_)
  obtain ⟨x, y, rfl, h⟩ := h
  refine ⟨_, (pss_cons (ps_if (pt_not (pt_val (pe_callB (callK rIsi (K := K) rfl call_isi) (by rfl) L.f_isinstance (by decide +kernel) (pa_cons (pv 0) (pa_cons (pe_cls L.g_Ratio) pa_nil))))) (pss_one (ps_ret pe_bl)) pss_nil)
    (pss_one (ps_ret (pe_and (pe_c (c_law_whole (K := K) L) hr (by decide) (L2N.takes_of rfl rfl rfl rfl) (pa_cons (pe_fld (pv 0) rfl) (pa_cons (pe_ix (ix_seqK (K := K) rfl) (pv 1) pe_int (fun _ _ => rfl)) pa_nil))) (pe_one (pe_c (c_law_whole (K := K) L) hr (by decide) (L2N.takes_of rfl rfl rfl rfl) (pa_cons (pe_fld (pv 0) rfl) (pa_cons (pe_ix (ix_seqK (K := K) rfl) (pv 1) pe_int (fun _ _ => rfl)) pa_nil)))))))), ?_⟩
  obtain ⟨a, t, p, q, rfl, rfl, hr, ht, k⟩ := h
  walk_at "zz"
  refine z_isR L.in_Ratio L.kt_Ratio_Ratio hr ?_
  walk_at "zz"
  rw [decide_eq_true rfl]
  walk_at "zz"
  rw [decide_eq_true rfl]
  exact k
theorem c_law_is (L : Lw K mg) : Cal P w K mg base 2 "_law_is" (sp2 (fs_lis K)) [] := by
  obtain ⟨fd, F⟩ := L.d_law_is
  exact ⟨⟨_, fd, ["actual", "due"], [], ok_law_is L F, L.g_law_is, F.kp, F.bindsN (fun _ _ _ _ _ _ us hl => match us, hl with | [_, _], _ => rfl), .nil⟩⟩
end
end T
set_option maxHeartbeats 4000000
namespace T
open PySem PySem.Spec PyProof.Rows L2 Z
theorem lt_0 : ("0" : Str) = SX.S [48] := by decide +kernel
theorem lt_1 : ("/" : Str) = SX.S [47] := by decide +kernel
theorem lt_2 : ("" : Str) = SX.S [] := by decide +kernel
theorem lt_3 : ("-" : Str) = SX.S [45] := by decide +kernel
theorem lt_4 : ("1" : Str) = SX.S [49] := by decide +kernel
theorem lt_5 : ("1/" : Str) = SX.S [49, 47] := by decide +kernel
theorem lt_6 : ("-0" : Str) = SX.S [45, 48] := by decide +kernel
theorem lt_7 : ("-0/5" : Str) = SX.S [45, 48, 47, 53] := by decide +kernel
theorem lt_8 : ("+" : Str) = SX.S [43] := by decide +kernel
theorem lt_9 : ("--" : Str) = SX.S [45, 45] := by decide +kernel
theorem lt_10 : ("\n" : Str) = SX.S [10] := by decide +kernel
theorem lt_11 : (" " : Str) = SX.S [32] := by decide +kernel
theorem lt_12 : ("_0" : Str) = SX.S [95, 48] := by decide +kernel
theorem lt_13 : ("x" : Str) = SX.S [120] := by decide +kernel
theorem lt_14 : ("/1" : Str) = SX.S [47, 49] := by decide +kernel
theorem lt_15 : (".0" : Str) = SX.S [46, 48] := by decide +kernel
theorem lt_16 : ("/0" : Str) = SX.S [47, 48] := by decide +kernel
theorem lt_17 : ("/ " : Str) = SX.S [47, 32] := by decide +kernel
theorem lt_18 : (" /" : Str) = SX.S [32, 47] := by decide +kernel
theorem lt_19 : ("/+" : Str) = SX.S [47, 43] := by decide +kernel
theorem lt_20 : ("/-" : Str) = SX.S [47, 45] := by decide +kernel
theorem lt_21 : ("7" : Str) = SX.S [55] := by decide +kernel
open S00 in
def fs_rw : F1 := fun x H Q _ => ∃ a, x = .str (SX.S a) ∧ asc a ∧ a.length ≤ 100000 ∧ (rw1 a = none → Q .non H) ∧ ∀ n : Nat, rw1 a = some n → Q (.int (n : Int)) H
open S00 in
def fs_rf : F1 := fun x H Q _ => ∃ a, x = .str (SX.S a) ∧ asc a ∧ a.length ≤ 100000 ∧ (rf a = none → ∀ H', Same H H' → Q .non H') ∧ ∀ t d, rf a = some (t, d) → ∀ p H', Same H H' → H' p = some (.tup [.int t, .int d]) → Q (.ref p) H'
open S00 in
def fs_read (K : Frag) : F1 := fun x H Q E => ∃ a, x = .str (SX.S a) ∧ asc a ∧ a.length ≤ 100000 ∧ (rf a = none → ∀ d H', Same H H' → H' d = some (.xd [("given", .str (SX.S a))]) → E (.ref (He.ga K "BadText")) (some d) H') ∧
  ∀ t d, rf a = some (t, d) → 0 < d ∧ Bits 8999 d ∧ ∀ p H', Same H H' → IsR K H' p (rt t d) (rb t d) → Q (.ref p) H'
open S00 in
def fs_text (K : Frag) : F1 := fun x H Q _ => ∃ (a : Addr) (p q : Int), x = .ref a ∧ IsR K H a p q ∧ p.natAbs < 10 ^ 4300 ∧ q.natAbs < 10 ^ 4300 ∧ (num p).length ≤ 5000 ∧ (num q).length ≤ 5000 ∧ Q (.str (SX.S (txt p q))) H
open S00 in
def fs_ltext : F1 := fun x H Q _ => ∃ (t : Addr) (p q : Int), x = .ref t ∧ H t = some (.tup [.int p, .int q]) ∧ p.natAbs < 10 ^ 4300 ∧ q.natAbs < 10 ^ 4300 ∧ (num p).length ≤ 5000 ∧ (num q).length ≤ 5000 ∧ Q (.str (SX.S (txt p q))) H
theorem z_js0 {ts : List TE} {R : Str → Hp → Prop} {σ : L2.St} {H : Hp} (q : tJs ts (SX.S []) σ H R) : tJs ts Str.empty σ H R := q
theorem rw_dig0 {a : List Nat} (h : ¬ S00.dig a = true) : S00.rw1 a = none := by
  unfold S00.rw1
  rw [if_neg (fun z => h z.1)]
theorem rw_lead2 {a : List Nat} (h : a.head? = some 48) (n : ¬ a = [48]) : S00.rw1 a = none := by
  unfold S00.rw1
  rw [if_neg (fun z => n (z.2.2 h))]
theorem rf_n1 {a u : List Nat} {l : Option (List Nat)} (hc : S00.cut (S00.bod a) = (u, l)) (h : S00.rw1 u = none) : S00.rf a = none := S00.rf_up (by rw [hc]; exact h)
theorem rf_n2 {a u : List Nat} {l : Option (List Nat)} (hc : S00.cut (S00.bod a) = (u, l)) (h : S00.lowV l = none) : S00.rf a = none := S00.rf_lo (by rw [hc]; exact h)
theorem rf_v {a u : List Nat} {l : Option (List Nat)} {t d : Nat} (hc : S00.cut (S00.bod a) = (u, l)) (h1 : S00.rw1 u = some t) (h2 : S00.lowV l = some d) :
    S00.rf a = if Nat.gcd t d ≠ 1 ∨ (l.isSome = true ∧ d < 2) then none else if a.head? = some 45 then (if t = 0 then none else some (-(t : Int), (d : Int))) else some ((t : Int), (d : Int)) := by
  unfold S00.rf
  rw [hc]
  show (match S00.rw1 u, S00.lowV l with | some t, some d => _ | _, _ => _) = _
  rw [h1, h2]
theorem tup_new {H : Hp} {p : Addr} {xs : List V} (h : H p = none) : Same H (upd H p (.tup xs)) ∧ (upd H p (.tup xs)) p = some (.tup xs) := ⟨Same.new h, upd_same⟩
theorem rw_cases {a : List Nat} (h : S00.dig a = true) (hl : ¬ a.length > 300) (hz : ¬ (a.head? = some 48 ∧ ¬ a = [48])) : S00.rw1 a = some (NumText.digitsVal a) := by
  unfold S00.rw1
  rw [if_pos ⟨h, by omega, fun e => Decidable.byContradiction fun n => hz ⟨e, n⟩⟩]
local macro_rules | `(tactic| walk_at "up") => `(tactic| first
  | assumption
  | (refine' IsR.mono (by assumption) ?zup; case zup => walk_at "up")
  | (refine' IsE.mono (by assumption) ?zup; case zup => walk_at "up")
  | (refine' Same.at (by assumption) ?zup; case zup => walk_at "up")
  | (refine' SqL.of ?zup; case zup => walk_at "up")
  | (refine' L2.Same.seq (by assumption) ?zup; case zup => walk_at "up"))
local macro_rules | `(tactic| walk_at "z") => `(tactic| first
  | ((with_reducible refine' z_var ?zvh ?_); (case zvh => exact rfl))
  | with_reducible refine z_c ?_
  | with_reducible refine z_cons ?_
  | with_reducible refine z_nil ?_
  | with_reducible refine z_op ?_
  | with_reducible refine z_nx ?_
  | with_reducible refine z_seq ?_
  | with_reducible refine z_asg ?_
  | with_reducible refine z_asgG ?_
  | with_reducible refine z_call ?_
  | with_reducible refine z_sq0 ?_
  | with_reducible refine z_sq1 ?_
  | with_reducible refine z_ifS ?_
  | with_reducible refine z_test ?_
  | with_reducible refine z_tb ?_
  | with_reducible refine z_bl ?_
  | with_reducible refine z_blI ?_
  | with_reducible refine z_ret ?_
  | with_reducible refine z_rt ?_
  | with_reducible refine z_T ?_
  | with_reducible refine z_F ?_
  | with_reducible refine z_add ?_
  | with_reducible refine z_sub ?_
  | with_reducible refine z_neg ?_
  | with_reducible refine z_un ?_
  | with_reducible refine z_eqI ?_
  | with_reducible refine z_neI ?_
  | with_reducible refine z_lt ?_
  | with_reducible refine z_le ?_
  | with_reducible refine z_gt ?_
  | with_reducible refine z_ge ?_
  | with_reducible refine z_not ?_
  | with_reducible refine z_and ?_
  | with_reducible refine z_or ?_
  | with_reducible refine z_andV ?_
  | with_reducible refine z_orV ?_
  | with_reducible refine z_notV ?_
  | with_reducible refine z_if ?_
  | with_reducible refine z_cb ?_
  | with_reducible refine z_int1 ?_
  | with_reducible refine z_intb ?_
  | with_reducible refine z_abs ?_
  | with_reducible refine z_gcd ?_
  | with_reducible refine z_isi_ii ?_
  | with_reducible refine z_isi_ib ?_
  | with_reducible refine z_next ?_
  | with_reducible refine z_drop ?_
  | with_reducible refine z_par ?_
  | with_reducible refine z_par2 ?_
  | with_reducible refine z_tupN ?_
  | with_reducible refine z_lstN ?_
  | ((with_reducible refine' z_nt ?zl1 ?_); (case zl1 => exact Nat.le_of_ble_eq_true rfl); intro p H' hp hs he)
  | ((with_reducible refine' z_gtup ?zl1 ?zl2 ?_); (case zl1 => walk_at "up"); (case zl2 => exact rfl))
  | with_reducible refine z_bk ?_
  | with_reducible refine z_ct ?_
  | with_reducible refine z_break ?_
  | with_reducible refine z_cont ?_
  | with_reducible refine z_retN ?_
  | with_reducible refine z_nn ?_
  | with_reducible refine z_mk ?_
  | with_reducible refine z_gn ?_
  | with_reducible refine z_gcons ?_
  | with_reducible refine z_gnil ?_
  | with_reducible refine z_mt ?_
  | with_reducible refine z_mko ?_
  | with_reducible refine z_for2 ?_
  | with_reducible refine z_ownI ?_
  | ((with_reducible refine' z_lenL ?zl1 ?_); (case zl1 => walk_at "up"))
  | ((with_reducible refine' z_ixT ?zl1 ?zl2 ?_); (case zl1 => walk_at "up"); (case zl2 => exact rfl))
  | ((with_reducible refine' z_mulL ?zl1 ?zl2 ?_); (case zl1 => omega); (case zl2 => omega))
  | ((with_reducible refine' z_mulR ?zl1 ?zl2 ?_); (case zl1 => omega); (case zl2 => omega))
  | ((with_reducible refine' z_divS ?zl1 ?zl2 ?_); (case zl1 => omega); (case zl2 => omega))
  | ((with_reducible refine' z_mulW ?zl1 ?zl2 ?zl3 ?zl4 ?_); (case zl1 => omega); (case zl2 => omega); (case zl3 => omega); (case zl4 => omega))
  | ((with_reducible refine' z_divW ?zl1 ?zl2 ?_); (case zl1 => omega); (case zl2 => omega)))
local macro_rules | `(tactic| walk_at "zz") => `(tactic| repeat (walk_at "z"))
local macro_rules | `(tactic| walk_at "z") => `(tactic| with_reducible refine z_lstN ?_)
local macro_rules | `(tactic| walk_at "z") => `(tactic| with_reducible refine z_p6 ?_)
local macro_rules | `(tactic| walk_at "z") => `(tactic| with_reducible refine z_p12 ?_)
local macro_rules | `(tactic| walk_at "z") => `(tactic| with_reducible refine z_p13 ?_)
local macro_rules | `(tactic| walk_at "z") => `(tactic| with_reducible refine z_calln ?_)
local macro_rules | `(tactic| walk_at "z") => `(tactic| with_reducible refine z_xfS ?_)
local macro_rules | `(tactic| walk_at "z") => `(tactic| with_reducible refine z_lcS ?_)
local macro_rules | `(tactic| walk_at "z") => `(tactic| with_reducible refine z_lcRS ?_)
local macro_rules | `(tactic| walk_at "z") => `(tactic| with_reducible refine z_lcZS ?_)
local macro_rules | `(tactic| walk_at "z") => `(tactic| with_reducible refine z_foS ?_)
local macro_rules | `(tactic| walk_at "z") => `(tactic| with_reducible refine z_for1 ?_)
local macro_rules | `(tactic| walk_at "z") => `(tactic| with_reducible refine z_tsl ?_)
local macro_rules | `(tactic| walk_at "z") => `(tactic| with_reducible refine z_np ?_)
local macro_rules | `(tactic| walk_at "z") => `(tactic| with_reducible refine z_pt ?_)
local macro_rules | `(tactic| walk_at "z") => `(tactic| with_reducible refine z_pti ?_)
local macro_rules | `(tactic| walk_at "z") => `(tactic| with_reducible refine z_catI ?_)
local macro_rules | `(tactic| walk_at "z") => `(tactic| with_reducible refine z_isNI ?_)
local macro_rules | `(tactic| walk_at "z") => `(tactic| with_reducible refine z_isNN ?_)
local macro_rules | `(tactic| walk_at "z") => `(tactic| with_reducible refine z_notNI ?_)
local macro_rules | `(tactic| walk_at "z") => `(tactic| with_reducible refine z_notNN ?_)
local macro_rules | `(tactic| walk_at "z") => `(tactic| with_reducible refine z_gsub ?_)
local macro_rules | `(tactic| walk_at "z") => `(tactic| with_reducible refine z_isNb ?_)
local macro_rules | `(tactic| walk_at "z") => `(tactic| with_reducible refine z_notNb ?_)
local macro_rules | `(tactic| walk_at "z") => `(tactic| ((with_reducible refine' z_nlR ?zl1 ?_); (case zl1 => exact Nat.le_of_ble_eq_true rfl); intro p H' hp hs he))
local macro_rules | `(tactic| walk_at "z") => `(tactic| ((with_reducible refine' z_repR ?zl1 ?zl2 ?_); (case zl1 => omega); (case zl2 => omega)))
local macro_rules | `(tactic| walk_at "z") => `(tactic| ((with_reducible refine' z_repL ?zl1 ?zl2 ?_); (case zl1 => omega); (case zl2 => omega)))
local macro_rules | `(tactic| walk_at "z") => `(tactic| ((with_reducible refine' z_lenLst ?zl1 ?_); (case zl1 => walk_at "up")))
local macro_rules | `(tactic| walk_at "z") => `(tactic| ((with_reducible refine' z_cat ?zl1 ?zl2 ?zl3 ?_); (case zl1 => walk_at "up"); (case zl2 => walk_at "up"); (case zl3 => (simp only [List.length_map, List.length_cons, List.length_nil, List.length_append, List.length_replicate]; omega)); intro p H' hp hs he))
local macro_rules | `(tactic| walk_at "z") => `(tactic| with_reducible refine z_sfl ?_)
local macro_rules | `(tactic| walk_at "z") => `(tactic| with_reducible refine z_lcES ?_)
local macro_rules | `(tactic| walk_at "z") => `(tactic| with_reducible refine z_lcMS ?_)
local macro_rules | `(tactic| walk_at "z") => `(tactic| with_reducible refine z_foES ?_)
local macro_rules | `(tactic| walk_at "z") => `(tactic| with_reducible refine z_fo3S ?_)
local macro_rules | `(tactic| walk_at "z") => `(tactic| with_reducible refine z_sta ?_)
local macro_rules | `(tactic| walk_at "z") => `(tactic| with_reducible refine z_sta1 ?_)
local macro_rules | `(tactic| walk_at "z") => `(tactic| ((with_reducible refine' z_fldt ?zc1 ?zc2 ?zl1 ?zl2 ?_); (case zc1 => exact Lw.cl_Ratio (by assumption)); (case zc2 => exact Lw.na_Ratio_top (by assumption)); (case zl1 => exact rfl); (case zl2 => walk_at "up")))
local macro_rules | `(tactic| walk_at "z") => `(tactic| ((with_reducible refine' z_fldb ?zc1 ?zc2 ?zl1 ?zl2 ?_); (case zc1 => exact Lw.cl_Ratio (by assumption)); (case zc2 => exact Lw.na_Ratio_bottom (by assumption)); (case zl1 => exact rfl); (case zl2 => walk_at "up")))
local macro_rules | `(tactic| walk_at "z") => `(tactic| with_reducible refine z_c3I ?_)
local macro_rules | `(tactic| walk_at "z") => `(tactic| with_reducible refine z_r2I ?_)
local macro_rules | `(tactic| walk_at "z") => `(tactic| with_reducible refine z_for3 ?_)
local macro_rules | `(tactic| walk_at "z") => `(tactic| with_reducible refine z_tbits ?_)
local macro_rules | `(tactic| walk_at "z") => `(tactic| with_reducible refine z_tbi ?_)
local macro_rules | `(tactic| walk_at "z") => `(tactic| ((with_reducible refine' u_mod ?zl1 ?_); (case zl1 => omega)))
local macro_rules | `(tactic| walk_at "z") => `(tactic| with_reducible refine u_who ?_)
local macro_rules | `(tactic| walk_at "z") => `(tactic| with_reducible refine z_asg2 ?_)
local macro_rules | `(tactic| walk_at "z") => `(tactic| with_reducible refine z_c3S (by simp only [List.length_append, List.length_cons, List.length_nil]; omega) ?_)
local macro_rules | `(tactic| walk_at "z") => `(tactic| with_reducible refine z_tm0 ?_)
local macro_rules | `(tactic| walk_at "z") => `(tactic| with_reducible refine z_tm1 ?_)
local macro_rules | `(tactic| walk_at "z") => `(tactic| with_reducible refine z_isS ?_)
local macro_rules | `(tactic| walk_at "z") => `(tactic| with_reducible refine z_eqS ?_)
local macro_rules | `(tactic| walk_at "z") => `(tactic| with_reducible refine z_neS ?_)
local macro_rules | `(tactic| walk_at "z") => `(tactic| with_reducible refine z_isN ?_)
local macro_rules | `(tactic| walk_at "z") => `(tactic| with_reducible refine z_jsN ?_)
local macro_rules | `(tactic| walk_at "z") => `(tactic| with_reducible refine z_jsC ?_)
local macro_rules | `(tactic| walk_at "z") => `(tactic| with_reducible refine z_fmB ?_)
local macro_rules | `(tactic| walk_at "z") => `(tactic| ((with_reducible refine' z_cLit ?zl1 ?_); (case zl1 => first | with_reducible exact lt_0 | with_reducible exact lt_1 | with_reducible exact lt_2 | with_reducible exact lt_3 | with_reducible exact lt_4 | with_reducible exact lt_5 | with_reducible exact lt_6 | with_reducible exact lt_7 | with_reducible exact lt_8 | with_reducible exact lt_9 | with_reducible exact lt_10 | with_reducible exact lt_11 | with_reducible exact lt_12 | with_reducible exact lt_13 | with_reducible exact lt_14 | with_reducible exact lt_15 | with_reducible exact lt_16 | with_reducible exact lt_17 | with_reducible exact lt_18 | with_reducible exact lt_19 | with_reducible exact lt_20 | with_reducible exact lt_21)))
local macro_rules | `(tactic| walk_at "z") => `(tactic| with_reducible refine z_js0 ?_)
theorem same00d {H H1 H2 : Hp} (h : Same H1 H2) (e : Same H H1) : Same H H2 := e.trans h
local macro_rules | `(tactic| walk_at "sm") => `(tactic| first
  | assumption
  | exact fun _ _ h => h
  | (refine' same00d (by assumption) ?zsm; case zsm => walk_at "sm"))
local macro_rules | `(tactic| walk_at "up") => `(tactic| first
  | assumption
  | (with_reducible refine' IsR.mono (by assumption) ?zup; case zup => walk_at "up")
  | (with_reducible refine' Same.at (by assumption) ?zup; case zup => walk_at "up")
  | (with_reducible refine' IsPool.mono (by assumption) ?zup; case zup => walk_at "up")
  | fail)
section
variable {P : Program} {w : World} {K : Frag} {mg : Str → Option Value} {base : Heap}
theorem ok_read_whole (L : Lw K mg) {fd : FuncData} (F : FunD K "read_whole" "read_whole" (defArgs s_read_whole) (defBody s_read_whole) (defScope s_read_whole) (df_read_whole.dvs K) (df_read_whole.kws K) (He.fAd K ("read_whole", none)) fd) : FnOk P w K mg base (L2N.CX P w) 1 (He.fAd K ("read_whole", none)) fd (["text"] : List Str) (sp1 fs_rw) := by
  refine FunD.ok F sc_read_whole len1 (fun cdv A outer s H vs Q E hr h => ?_)
  obtain ⟨x, rfl, h⟩ := h
  refine ⟨_, (pss_cons (ps_if (PW.pt (pw_or (pt_not (pt_val (pe_m0 PySem.F.slot_str_isdigit PySem.F.type_str_isdigit mt_isdigit (pv 0)))) (pw_or1 (pt_cmpR o_gt (pe_callB (callK rLen1 (K := K) rfl o_len) (by rfl) L.f_len (by decide +kernel) (pa_cons (pv 0) pa_nil)) pe_int (nomark _))))) (pss_one (ps_ret pe_non)) pss_nil)
    (pss_cons (ps_if (PW.pt (pw_and (pt_val (pe_m1 PySem.F.slot_str_startswith PySem.F.type_str_startswith mt_startswith (pv 0) pe_str)) (pw_and1 (pt_cmpR op_ne (pv 0) pe_str (nomark _))))) (pss_one (ps_ret pe_non)) pss_nil)
    (pss_one (ps_ret (pe_callTy o_int2 (by rfl) L.f_int (by decide +kernel) (pa_cons (pv 0) pa_nil)))))), ?_⟩
  obtain ⟨a, rfl, ha, hl, k0, k1⟩ := h
  walk_at "zz"
  refine ⟨_, rfl, rfl, trivial, ?_⟩
  rw [S00.isdigit_S ha]
  by_cases hd : S00.dig a = true
  · rw [hd]
    walk_at "zz"
    refine z_lenSt (by omega) ?_
    walk_at "zz"
    refine z_d2 (fun c => ?_) (fun c => ?_)
    · walk_at "zz"
      exact k0 (S00.rw_long (by omega))
    · walk_at "zz"
      refine ⟨_, _, rfl, rfl, ?_⟩
      rw [S00.starts_S]
      walk_at "zz"
      by_cases hz : a.head? = some 48
      · rw [decide_eq_true hz]
        walk_at "zz"
        by_cases h1 : a = [48]
        · rw [decide_eq_true h1]
          walk_at "zz"
          exact z_i2S hd (by omega) (k1 _ (rw_cases hd (by omega) (fun z => z.2 h1)))
        · rw [decide_eq_false h1]
          walk_at "zz"
          exact k0 (rw_lead2 hz h1)
      · rw [decide_eq_false hz]
        walk_at "zz"
        exact z_i2S hd (by omega) (k1 _ (rw_cases hd (by omega) (fun z => hz z.1)))
  · rw [Bool.eq_false_iff.mpr hd]
    walk_at "zz"
    exact k0 (rw_dig0 hd)
theorem c_read_whole (L : Lw K mg) : Cal P w K mg base 1 "read_whole" (sp1 fs_rw) [] := by
  obtain ⟨fd, F⟩ := L.d_read_whole
  exact ⟨⟨_, fd, ["text"], [], ok_read_whole L F, L.g_read_whole, F.kp, F.bindsN (fun _ _ _ _ _ _ us hl => match us, hl with | [_], _ => rfl), .nil⟩⟩
theorem ok_read_fraction (L : Lw K mg) {fd : FuncData} (F : FunD K "read_fraction" "read_fraction" (defArgs s_read_fraction) (defBody s_read_fraction) (defScope s_read_fraction) (df_read_fraction.dvs K) (df_read_fraction.kws K) (He.fAd K ("read_fraction", none)) fd) : FnOk P w K mg base (L2N.CX P w) 2 (He.fAd K ("read_fraction", none)) fd (["text"] : List Str) (sp1 fs_rf) := by
  refine FunD.ok F sc_read_fraction len1 (fun cdv A outer s H vs Q E hr h => ?_)
  obtain ⟨x, rfl, h⟩ := h
  refine ⟨_, (pss_cons (ps_asg (pe_m1 PySem.F.slot_str_partition PySem.F.type_str_partition mt_partition (pe_m1 PySem.F.slot_str_removeprefix PySem.F.type_str_removeprefix mt_removeprefix (pv 0) pe_str) pe_str) (pg_tup (by rfl) (pgs_cons (pg_name (i := 1) sc_read_fraction.nd rfl (by first | exact Or.inl rfl | exact Or.inr rfl)) (pgs_cons (pg_name (i := 2) sc_read_fraction.nd rfl (by first | exact Or.inl rfl | exact Or.inr rfl)) (pgs_cons (pg_name (i := 3) sc_read_fraction.nd rfl (by first | exact Or.inl rfl | exact Or.inr rfl)) pgs_nil)))))
    (pss_cons (ps_set (i := 4) sc_read_fraction.nd rfl (by first | exact Or.inl rfl | exact Or.inr rfl) (pe_c (c_read_whole (K := K) L) hr (by decide) (L2N.takes_of rfl rfl rfl rfl) (pa_cons (pv 1) pa_nil)))
    (pss_cons (ps_set (i := 5) sc_read_fraction.nd rfl (by first | exact Or.inl rfl | exact Or.inr rfl) (pe_ifExp (pt_cmpR op_eq (pv 2) pe_str (nomark _)) pe_int (pe_c (c_read_whole (K := K) L) hr (by decide) (L2N.takes_of rfl rfl rfl rfl) (pa_cons (pv 3) pa_nil))))
    (pss_cons (ps_if (PW.pt (pw_or (pt_cmpR o_isN (pv 4) pe_non (nomark _)) (pw_or (pt_cmpR o_isN (pv 5) pe_non (nomark _)) (pw_or1 (pt_cmpR op_ne (pe_callBfun cr_gcd rfl L.v_gcd (pa_cons (pv 4) (pa_cons (pv 5) pa_nil))) pe_int (nomark _)))))) (pss_one (ps_ret pe_non)) pss_nil)
    (pss_cons (ps_if (PW.pt (pw_and (pt_cmpR op_ne (pv 2) pe_str (nomark _)) (pw_and1 (pt_cmpR o_lt (pv 5) pe_int (nomark _))))) (pss_one (ps_ret pe_non)) pss_nil)
    (pss_cons (ps_if (pt_not (pt_val (pe_m1 PySem.F.slot_str_startswith PySem.F.type_str_startswith mt_startswith (pv 0) pe_str))) (pss_one (ps_ret (pe_tup (pa_cons (pv 4) (pa_cons (pv 5) pa_nil))))) pss_nil)
    (pss_one (ps_ret (pe_ifExp (pt_cmpR op_eq (pv 4) pe_int (nomark _)) pe_non (pe_tup (pa_cons (pe_un o_neg (pv 4)) (pa_cons (pv 5) pa_nil)))))))))))), ?_⟩
  rw [show L2.start (["text", "upper", "slash", "lower", "top", "bottom"] : List Str) [x] = [some x, none, none, none, none, none] from rfl]
  obtain ⟨a, rfl, ha, hl, k0, k1⟩ := h
  have lb := S00.len_bod a
  have lc := S00.len_cut (S00.bod a)
  have ac := S00.asc_cut (S00.asc_bod ha)
  have pt := S00.part_S (S00.bod a)
  try dsimp only [List.set]
  walk_at "zz"
  refine ⟨_, _, rfl, rfl, by rw [SX.S_len, sizeLine_eq]; omega, ?_⟩
  rw [S00.removeprefix_S]
  try dsimp only [List.set]
  walk_at "zz"
  refine ⟨_, _, rfl, rfl, rfl, by rw [SX.S_len, sizeLine_eq]; omega, fun p hp => ?_⟩
  rcases hc : S00.cut (S00.bod a) with ⟨u, l⟩
  rw [hc] at lc ac pt
  have lu : u.length ≤ 100000 := by
    have : u.length ≤ (S00.bod a).length := lc.1
    omega
  cases l with
  | none =>
    rw [show Txt.partition (SX.S (S00.bod a)) (SX.S [47]) = (SX.S (S00.bod a), SX.S [], SX.S []) from pt]
    have eu : S00.bod a = u := by
      rcases S00.two_ways (S00.bod a) with h1 | ⟨p1, r1, h1, h2⟩
      · rw [S00.cut_miss h1] at hc
        exact congrArg (·.1) hc
      · rw [h2, S00.cut_hit h1] at hc
        cases hc
    rw [eu]
    obtain ⟨s1, e1⟩ := tup_new (xs := [.str (SX.S u), .str (SX.S []), .str (SX.S [])]) hp
    dsimp only
    generalize upd H p (.tup [.str (SX.S u), .str (SX.S []), .str (SX.S [])]) = H1 at *
    try dsimp only [List.set]
    walk_at "zz"
    refine ⟨_, rfl, u, rfl, ac.1, lu, fun hn => ?_, fun t ht => ?_⟩
    · try dsimp only [List.set]
      walk_at "zz"
      rw [decide_eq_true rfl]
      try dsimp only [List.set]
      walk_at "zz"
      exact k0 (rf_n1 hc hn) _ s1
    · have hb : S00.lowV none = some 1 := rfl
      try dsimp only [List.set]
      walk_at "zz"
      rw [decide_eq_true rfl]
      try dsimp only [List.set]
      walk_at "zz"
      rw [decide_eq_false (by intro z; cases z)]
      try dsimp only [List.set]
      walk_at "zz"
      rw [decide_eq_false (by intro z; cases z)]
      try dsimp only [List.set]
      walk_at "zz"
      by_cases hg : Nat.gcd t 1 = 1
      · rw [decide_eq_true (show ((Int.gcd ((t : Nat) : Int) 1 : Nat) : Int) = 1 from by
          have : Int.gcd ((t : Nat) : Int) 1 = Nat.gcd t 1 := rfl
          omega)]
        try dsimp only [List.set]
        walk_at "zz"
        rw [decide_eq_true rfl]
        try dsimp only [List.set]
        walk_at "zz"
        refine ⟨_, _, rfl, rfl, ?_⟩
        rw [S00.starts_S]
        by_cases hm : a.head? = some 45
        · rw [decide_eq_true hm]
          try dsimp only [List.set]
          walk_at "zz"
          refine z_d2 (fun c0 => ?_) (fun c0 => ?_)
          · try dsimp only [List.set]
            walk_at "zz"
            exact k0 (by rw [rf_v hc ht hb, if_neg (by intro z; rcases z with z | z; exact z hg; exact absurd z.1 (by simp)), if_pos hm, if_pos (by omega)]) _ (by walk_at "sm")
          · try dsimp only [List.set]
            walk_at "zz"
            refine k1 _ _ (by rw [rf_v hc ht hb, if_neg (by intro z; rcases z with z | z; exact z hg; exact absurd z.1 (by simp)), if_pos hm, if_neg (by omega)]) _ _ (by walk_at "sm") (by assumption)
        · rw [decide_eq_false hm]
          try dsimp only [List.set]
          walk_at "zz"
          refine k1 _ _ (by rw [rf_v hc ht hb, if_neg (by intro z; rcases z with z | z; exact z hg; exact absurd z.1 (by simp)), if_neg hm]) _ _ (by walk_at "sm") (by assumption)
      · have hg2 : ¬ ((Int.gcd ((t : Nat) : Int) 1 : Nat) : Int) = 1 := by
          intro z
          have : Int.gcd ((t : Nat) : Int) 1 = Nat.gcd t 1 := rfl
          omega
        rw [decide_eq_false hg2]
        try dsimp only [List.set]
        walk_at "zz"
        exact k0 (by rw [rf_v hc ht hb, if_pos (Or.inl hg)]) _ (by walk_at "sm")
  | some r =>
    rw [show Txt.partition (SX.S (S00.bod a)) (SX.S [47]) = (SX.S u, SX.S [47], SX.S r) from pt]
    obtain ⟨s1, e1⟩ := tup_new (xs := [.str (SX.S u), .str (SX.S [47]), .str (SX.S r)]) hp
    dsimp only
    generalize upd H p (.tup [.str (SX.S u), .str (SX.S [47]), .str (SX.S r)]) = H1 at *
    have lr : r.length ≤ 100000 := by
      have : r.length ≤ (S00.bod a).length := lc.2 r rfl
      omega
    try dsimp only [List.set]
    walk_at "zz"
    refine ⟨_, rfl, u, rfl, ac.1, lu, fun hn => ?_, fun t ht => ?_⟩
    · try dsimp only [List.set]
      walk_at "zz"
      rw [decide_eq_false (by simp)]
      try dsimp only [List.set]
      walk_at "zz"
      refine ⟨_, rfl, r, rfl, ac.2 r rfl, lr, fun hn2 => ?_, fun d hb => ?_⟩
      · try dsimp only [List.set]
        walk_at "zz"
        exact k0 (rf_n1 hc hn) _ s1
      · try dsimp only [List.set]
        walk_at "zz"
        exact k0 (rf_n1 hc hn) _ s1
    · try dsimp only [List.set]
      walk_at "zz"
      rw [decide_eq_false (by simp)]
      try dsimp only [List.set]
      walk_at "zz"
      refine ⟨_, rfl, r, rfl, ac.2 r rfl, lr, fun hn2 => ?_, fun d hb => ?_⟩
      · try dsimp only [List.set]
        walk_at "zz"
        rw [decide_eq_false (by intro z; cases z)]
        try dsimp only [List.set]
        walk_at "zz"
        exact k0 (rf_n2 hc hn2) _ s1
      · try dsimp only [List.set]
        walk_at "zz"
        rw [decide_eq_false (by intro z; cases z)]
        try dsimp only [List.set]
        walk_at "zz"
        rw [decide_eq_false (by intro z; cases z)]
        try dsimp only [List.set]
        walk_at "zz"
        by_cases hg : Nat.gcd t d = 1
        · rw [decide_eq_true (show ((Int.gcd ((t : Nat) : Int) ((d : Nat) : Int) : Nat) : Int) = 1 from by
            have : Int.gcd ((t : Nat) : Int) ((d : Nat) : Int) = Nat.gcd t d := rfl
            omega)]
          try dsimp only [List.set]
          walk_at "zz"
          rw [decide_eq_false (by simp)]
          try dsimp only [List.set]
          walk_at "zz"
          refine z_d2 (fun c2 => ?_) (fun c2 => ?_)
          · try dsimp only [List.set]
            walk_at "zz"
            exact k0 (by rw [rf_v hc ht hb, if_pos (Or.inr ⟨rfl, by omega⟩)]) _ (by walk_at "sm")
          try dsimp only [List.set]
          walk_at "zz"
          refine ⟨_, _, rfl, rfl, ?_⟩
          rw [S00.starts_S]
          by_cases hm : a.head? = some 45
          · rw [decide_eq_true hm]
            try dsimp only [List.set]
            walk_at "zz"
            refine z_d2 (fun c0 => ?_) (fun c0 => ?_)
            · try dsimp only [List.set]
              walk_at "zz"
              exact k0 (by rw [rf_v hc ht hb, if_neg (by intro z; rcases z with z | z; exact z hg; omega), if_pos hm, if_pos (by omega)]) _ (by walk_at "sm")
            · try dsimp only [List.set]
              walk_at "zz"
              refine k1 _ _ (by rw [rf_v hc ht hb, if_neg (by intro z; rcases z with z | z; exact z hg; omega), if_pos hm, if_neg (by omega)]) _ _ (by walk_at "sm") (by assumption)
          · rw [decide_eq_false hm]
            try dsimp only [List.set]
            walk_at "zz"
            refine k1 _ _ (by rw [rf_v hc ht hb, if_neg (by intro z; rcases z with z | z; exact z hg; omega), if_neg hm]) _ _ (by walk_at "sm") (by assumption)
        · have hg2 : ¬ ((Int.gcd ((t : Nat) : Int) ((d : Nat) : Int) : Nat) : Int) = 1 := by
            intro z
            have : Int.gcd ((t : Nat) : Int) ((d : Nat) : Int) = Nat.gcd t d := rfl
            omega
          rw [decide_eq_false hg2]
          try dsimp only [List.set]
          walk_at "zz"
          exact k0 (by rw [rf_v hc ht hb, if_pos (Or.inl hg)]) _ (by walk_at "sm")
theorem c_read_fraction (L : Lw K mg) : Cal P w K mg base 2 "read_fraction" (sp1 fs_rf) [] := by
  obtain ⟨fd, F⟩ := L.d_read_fraction
  exact ⟨⟨_, fd, ["text"], [], ok_read_fraction L F, L.g_read_fraction, F.kp, F.bindsN (fun _ _ _ _ _ _ us hl => match us, hl with | [_], _ => rfl), .nil⟩⟩
theorem ok_Ratio_text (L : Lw K mg) {fd : FuncData} (F : FunD K "text" "Ratio.text" (defArgs s_Ratio_text) (defBody s_Ratio_text) (defScope s_Ratio_text) (df_Ratio_text.dvs K) (df_Ratio_text.kws K) (He.fAd K ("Ratio", some "text")) fd) : FnOk P w K mg base (L2N.CX P w) 1 (He.fAd K ("Ratio", some "text")) fd (["self"] : List Str) (sp1 (fs_text K)) := by
  refine FunD.ok F sc_Ratio_text len1 (fun cdv A outer s H vs Q E hr h => ?_)
  obtain ⟨x, rfl, h⟩ := h
  refine ⟨_, (pss_cons (ps_if (pt_cmpR op_eq (pe_fld (pv 0) rfl) pe_int (nomark _)) (pss_one (ps_ret (pe_callTy (call_strB (K := K) rfl rfl L.dig) (by rfl) L.f_str (by decide +kernel) (pa_cons (pe_fld (pv 0) rfl) pa_nil)))) pss_nil)
    (pss_one (ps_ret (pe_joined (.cons (pe_fmtB (K := K) rfl rfl L.dig (pe_fld (pv 0) rfl)) (.cons pe_str (.cons (pe_fmtB (K := K) rfl rfl L.dig (pe_fld (pv 0) rfl)) .nil))))))), ?_⟩
  obtain ⟨a, p, q, rfl, ha, bp, bq, lp, lq, k⟩ := h
  unfold S00.txt at k
  walk_at "zz"
  refine z_d2 (fun c => ?_) (fun c => ?_)
  · rw [if_pos c] at k
    walk_at "zz"
    exact z_strB bp k
  · rw [if_neg c] at k
    walk_at "zz"
    refine ⟨bp, ?_⟩
    refine z_jsX (by simp only [List.length_nil]; omega) ?_
    walk_at "zz"
    refine z_jsX (by simp only [List.length_append, List.length_cons, List.length_nil]; omega) ?_
    walk_at "zz"
    refine ⟨bq, ?_⟩
    refine z_jsX (by simp only [List.length_append, List.length_cons, List.length_nil]; omega) ?_
    walk_at "zz"
    rw [List.nil_append, List.append_assoc]
    exact k
theorem c_Ratio_text (L : Lw K mg) : Met P w K mg base 1 (He.ga K "Ratio") "text" (sp1 (fs_text K)) [] := by
  obtain ⟨fd, F⟩ := L.d_Ratio_text
  exact ⟨⟨_, fd, ["self"], [], L.cl_Ratio, L.me_Ratio_text, ok_Ratio_text L F, F.bindsN (fun _ _ _ _ _ _ us hl => match us, hl with | [_], _ => rfl), .nil⟩⟩
theorem ok_law_text (L : Lw K mg) {fd : FuncData} (F : FunD K "_law_text" "_law_text" (defArgs s_law_text) (defBody s_law_text) (defScope s_law_text) (df_law_text.dvs K) (df_law_text.kws K) (He.fAd K ("_law_text", none)) fd) : FnOk P w K mg base (L2N.CX P w) 1 (He.fAd K ("_law_text", none)) fd (["one"] : List Str) (sp1 fs_ltext) := by
  refine FunD.ok F sc_law_text len1 (fun cdv A outer s H vs Q E hr h => ?_)
  obtain ⟨x, rfl, h⟩ := h
  refine ⟨_, (pss_cons (ps_if (pt_cmpR op_eq (pe_ix (ix_seqK (K := K) rfl) (pv 0) pe_int (fun _ _ => rfl)) pe_int (nomark _)) (pss_one (ps_ret (pe_callTy (call_strB (K := K) rfl rfl L.dig) (by rfl) L.f_str (by decide +kernel) (pa_cons (pe_ix (ix_seqK (K := K) rfl) (pv 0) pe_int (fun _ _ => rfl)) pa_nil)))) pss_nil)
    (pss_one (ps_ret (pe_op o_cat3 (pe_op o_cat3 (pe_callTy (call_strB (K := K) rfl rfl L.dig) (by rfl) L.f_str (by decide +kernel) (pa_cons (pe_ix (ix_seqK (K := K) rfl) (pv 0) pe_int (fun _ _ => rfl)) pa_nil)) pe_str) (pe_callTy (call_strB (K := K) rfl rfl L.dig) (by rfl) L.f_str (by decide +kernel) (pa_cons (pe_ix (ix_seqK (K := K) rfl) (pv 0) pe_int (fun _ _ => rfl)) pa_nil)))))), ?_⟩
  obtain ⟨t, p, q, rfl, ht, bp, bq, lp, lq, k⟩ := h
  unfold S00.txt at k
  walk_at "zz"
  refine z_d2 (fun c => ?_) (fun c => ?_)
  · rw [if_pos c] at k
    walk_at "zz"
    exact z_strB bp k
  · rw [if_neg c] at k
    walk_at "zz"
    refine z_strB bp ?_
    walk_at "zz"
    refine z_strB bq ?_
    walk_at "zz"
    rw [List.append_assoc]
    exact k
theorem c_law_text (L : Lw K mg) : Cal P w K mg base 1 "_law_text" (sp1 fs_ltext) [] := by
  obtain ⟨fd, F⟩ := L.d_law_text
  exact ⟨⟨_, fd, ["one"], [], ok_law_text L F, L.g_law_text, F.kp, F.bindsN (fun _ _ _ _ _ _ us hl => match us, hl with | [_], _ => rfl), .nil⟩⟩
end
end T
set_option maxHeartbeats 4000000
namespace T
open PySem PySem.Spec PyProof.Rows L2 Z
/-- a fraction in lowest terms of no more than 700 digits either way -/
structure Lx (p q : Int) : Prop where
  pos : 0 < q
  g : Int.gcd p q = 1
  bp : p.natAbs < 10 ^ 700
  bq : q.natAbs < 10 ^ 700
theorem ten700 : (10 : Nat) ^ 700 < 2 ^ 2800 ∧ (10 : Nat) ^ 700 < 10 ^ 4300 := by decide +kernel
theorem Lx.bits {p q : Int} (h : Lx p q) : Bits 8999 q := by
  have := h.bq
  have := ten700.1
  have : (2 : Nat) ^ 2800 ≤ 2 ^ 8999 := Nat.pow_le_pow_right (by decide) (by decide)
  unfold Bits
  omega
theorem Lx.tp {p q : Int} (h : Lx p q) : p.natAbs < 10 ^ 4300 ∧ q.natAbs < 10 ^ 4300 := ⟨Nat.lt_trans h.bp ten700.2, Nat.lt_trans h.bq ten700.2⟩
theorem Lx.ln {p q : Int} (h : Lx p q) : (S00.num p).length ≤ 701 ∧ (S00.num q).length ≤ 701 := ⟨S00.len_num (by decide) h.bp, S00.len_num (by decide) h.bq⟩
theorem txt_len {p q : Int} {n : Nat} (h1 : (S00.num p).length ≤ n) (h2 : (S00.num q).length ≤ n) : (S00.txt p q).length ≤ 2 * n + 1 := by
  unfold S00.txt
  split
  · omega
  · rw [List.length_append, List.length_cons]
    omega
open S00 in
def fs_ref : F1 := fun x H Q _ => ∃ a, x = .str (SX.S a) ∧ asc a ∧ a.length ≤ 100000 ∧ rf a = none ∧ ∀ H', Same H H' → Q (.bl true) H'
def fs_wri (K : Frag) : F2 := fun x y H Q _ => ∃ (a t : Addr) (p q : Int), x = .ref a ∧ y = .ref t ∧ IsR K H a p q ∧ H t = some (.tup [.int p, .int q]) ∧ Lx p q ∧ Q (.bl true) H
def fs_rd : F1 := fun x H Q _ => ∃ (t : Addr) (p q : Int), x = .ref t ∧ H t = some (.tup [.int p, .int q]) ∧ Lx p q ∧ ∀ H', Same H H' → Q (.bl true) H'
theorem num_abs (p : Int) : S00.num ((p.natAbs : Nat) : Int) = TL.numL p.natAbs := by
  rw [S00.num_nn (by omega), Int.natAbs_natCast]
local macro_rules | `(tactic| walk_at "up") => `(tactic| first
  | assumption
  | (refine' IsR.mono (by assumption) ?zup; case zup => walk_at "up")
  | (refine' IsE.mono (by assumption) ?zup; case zup => walk_at "up")
  | (refine' Same.at (by assumption) ?zup; case zup => walk_at "up")
  | (refine' SqL.of ?zup; case zup => walk_at "up")
  | (refine' L2.Same.seq (by assumption) ?zup; case zup => walk_at "up"))
local macro_rules | `(tactic| walk_at "z") => `(tactic| first
  | ((with_reducible refine' z_var ?zvh ?_); (case zvh => exact rfl))
  | with_reducible refine z_c ?_
  | with_reducible refine z_cons ?_
  | with_reducible refine z_nil ?_
  | with_reducible refine z_op ?_
  | with_reducible refine z_nx ?_
  | with_reducible refine z_seq ?_
  | with_reducible refine z_asg ?_
  | with_reducible refine z_asgG ?_
  | with_reducible refine z_call ?_
  | with_reducible refine z_sq0 ?_
  | with_reducible refine z_sq1 ?_
  | with_reducible refine z_ifS ?_
  | with_reducible refine z_test ?_
  | with_reducible refine z_tb ?_
  | with_reducible refine z_bl ?_
  | with_reducible refine z_blI ?_
  | with_reducible refine z_ret ?_
  | with_reducible refine z_rt ?_
  | with_reducible refine z_T ?_
  | with_reducible refine z_F ?_
  | with_reducible refine z_add ?_
  | with_reducible refine z_sub ?_
  | with_reducible refine z_neg ?_
  | with_reducible refine z_un ?_
  | with_reducible refine z_eqI ?_
  | with_reducible refine z_neI ?_
  | with_reducible refine z_lt ?_
  | with_reducible refine z_le ?_
  | with_reducible refine z_gt ?_
  | with_reducible refine z_ge ?_
  | with_reducible refine z_not ?_
  | with_reducible refine z_and ?_
  | with_reducible refine z_or ?_
  | with_reducible refine z_andV ?_
  | with_reducible refine z_orV ?_
  | with_reducible refine z_notV ?_
  | with_reducible refine z_if ?_
  | with_reducible refine z_cb ?_
  | with_reducible refine z_int1 ?_
  | with_reducible refine z_intb ?_
  | with_reducible refine z_abs ?_
  | with_reducible refine z_gcd ?_
  | with_reducible refine z_isi_ii ?_
  | with_reducible refine z_isi_ib ?_
  | with_reducible refine z_next ?_
  | with_reducible refine z_drop ?_
  | with_reducible refine z_par ?_
  | with_reducible refine z_par2 ?_
  | with_reducible refine z_tupN ?_
  | with_reducible refine z_lstN ?_
  | ((with_reducible refine' z_nt ?zl1 ?_); (case zl1 => exact Nat.le_of_ble_eq_true rfl); intro p H' hp hs he)
  | ((with_reducible refine' z_gtup ?zl1 ?zl2 ?_); (case zl1 => walk_at "up"); (case zl2 => exact rfl))
  | with_reducible refine z_bk ?_
  | with_reducible refine z_ct ?_
  | with_reducible refine z_break ?_
  | with_reducible refine z_cont ?_
  | with_reducible refine z_retN ?_
  | with_reducible refine z_nn ?_
  | with_reducible refine z_mk ?_
  | with_reducible refine z_gn ?_
  | with_reducible refine z_gcons ?_
  | with_reducible refine z_gnil ?_
  | with_reducible refine z_mt ?_
  | with_reducible refine z_mko ?_
  | with_reducible refine z_for2 ?_
  | with_reducible refine z_ownI ?_
  | ((with_reducible refine' z_lenL ?zl1 ?_); (case zl1 => walk_at "up"))
  | ((with_reducible refine' z_ixT ?zl1 ?zl2 ?_); (case zl1 => walk_at "up"); (case zl2 => exact rfl))
  | ((with_reducible refine' z_mulL ?zl1 ?zl2 ?_); (case zl1 => omega); (case zl2 => omega))
  | ((with_reducible refine' z_mulR ?zl1 ?zl2 ?_); (case zl1 => omega); (case zl2 => omega))
  | ((with_reducible refine' z_divS ?zl1 ?zl2 ?_); (case zl1 => omega); (case zl2 => omega))
  | ((with_reducible refine' z_mulW ?zl1 ?zl2 ?zl3 ?zl4 ?_); (case zl1 => omega); (case zl2 => omega); (case zl3 => omega); (case zl4 => omega))
  | ((with_reducible refine' z_divW ?zl1 ?zl2 ?_); (case zl1 => omega); (case zl2 => omega)))
local macro_rules | `(tactic| walk_at "zz") => `(tactic| repeat (walk_at "z"))
local macro_rules | `(tactic| walk_at "z") => `(tactic| with_reducible refine z_lstN ?_)
local macro_rules | `(tactic| walk_at "z") => `(tactic| with_reducible refine z_p6 ?_)
local macro_rules | `(tactic| walk_at "z") => `(tactic| with_reducible refine z_p12 ?_)
local macro_rules | `(tactic| walk_at "z") => `(tactic| with_reducible refine z_p13 ?_)
local macro_rules | `(tactic| walk_at "z") => `(tactic| with_reducible refine z_calln ?_)
local macro_rules | `(tactic| walk_at "z") => `(tactic| with_reducible refine z_xfS ?_)
local macro_rules | `(tactic| walk_at "z") => `(tactic| with_reducible refine z_lcS ?_)
local macro_rules | `(tactic| walk_at "z") => `(tactic| with_reducible refine z_lcRS ?_)
local macro_rules | `(tactic| walk_at "z") => `(tactic| with_reducible refine z_lcZS ?_)
local macro_rules | `(tactic| walk_at "z") => `(tactic| with_reducible refine z_foS ?_)
local macro_rules | `(tactic| walk_at "z") => `(tactic| with_reducible refine z_for1 ?_)
local macro_rules | `(tactic| walk_at "z") => `(tactic| with_reducible refine z_tsl ?_)
local macro_rules | `(tactic| walk_at "z") => `(tactic| with_reducible refine z_np ?_)
local macro_rules | `(tactic| walk_at "z") => `(tactic| with_reducible refine z_pt ?_)
local macro_rules | `(tactic| walk_at "z") => `(tactic| with_reducible refine z_pti ?_)
local macro_rules | `(tactic| walk_at "z") => `(tactic| with_reducible refine z_catI ?_)
local macro_rules | `(tactic| walk_at "z") => `(tactic| with_reducible refine z_isNI ?_)
local macro_rules | `(tactic| walk_at "z") => `(tactic| with_reducible refine z_isNN ?_)
local macro_rules | `(tactic| walk_at "z") => `(tactic| with_reducible refine z_notNI ?_)
local macro_rules | `(tactic| walk_at "z") => `(tactic| with_reducible refine z_notNN ?_)
local macro_rules | `(tactic| walk_at "z") => `(tactic| with_reducible refine z_gsub ?_)
local macro_rules | `(tactic| walk_at "z") => `(tactic| with_reducible refine z_isNb ?_)
local macro_rules | `(tactic| walk_at "z") => `(tactic| with_reducible refine z_notNb ?_)
local macro_rules | `(tactic| walk_at "z") => `(tactic| ((with_reducible refine' z_nlR ?zl1 ?_); (case zl1 => exact Nat.le_of_ble_eq_true rfl); intro p H' hp hs he))
local macro_rules | `(tactic| walk_at "z") => `(tactic| ((with_reducible refine' z_repR ?zl1 ?zl2 ?_); (case zl1 => omega); (case zl2 => omega)))
local macro_rules | `(tactic| walk_at "z") => `(tactic| ((with_reducible refine' z_repL ?zl1 ?zl2 ?_); (case zl1 => omega); (case zl2 => omega)))
local macro_rules | `(tactic| walk_at "z") => `(tactic| ((with_reducible refine' z_lenLst ?zl1 ?_); (case zl1 => walk_at "up")))
local macro_rules | `(tactic| walk_at "z") => `(tactic| ((with_reducible refine' z_cat ?zl1 ?zl2 ?zl3 ?_); (case zl1 => walk_at "up"); (case zl2 => walk_at "up"); (case zl3 => (simp only [List.length_map, List.length_cons, List.length_nil, List.length_append, List.length_replicate]; omega)); intro p H' hp hs he))
local macro_rules | `(tactic| walk_at "z") => `(tactic| with_reducible refine z_sfl ?_)
local macro_rules | `(tactic| walk_at "z") => `(tactic| with_reducible refine z_lcES ?_)
local macro_rules | `(tactic| walk_at "z") => `(tactic| with_reducible refine z_lcMS ?_)
local macro_rules | `(tactic| walk_at "z") => `(tactic| with_reducible refine z_foES ?_)
local macro_rules | `(tactic| walk_at "z") => `(tactic| with_reducible refine z_fo3S ?_)
local macro_rules | `(tactic| walk_at "z") => `(tactic| with_reducible refine z_sta ?_)
local macro_rules | `(tactic| walk_at "z") => `(tactic| with_reducible refine z_sta1 ?_)
local macro_rules | `(tactic| walk_at "z") => `(tactic| ((with_reducible refine' z_fldt ?zc1 ?zc2 ?zl1 ?zl2 ?_); (case zc1 => exact Lw.cl_Ratio (by assumption)); (case zc2 => exact Lw.na_Ratio_top (by assumption)); (case zl1 => exact rfl); (case zl2 => walk_at "up")))
local macro_rules | `(tactic| walk_at "z") => `(tactic| ((with_reducible refine' z_fldb ?zc1 ?zc2 ?zl1 ?zl2 ?_); (case zc1 => exact Lw.cl_Ratio (by assumption)); (case zc2 => exact Lw.na_Ratio_bottom (by assumption)); (case zl1 => exact rfl); (case zl2 => walk_at "up")))
local macro_rules | `(tactic| walk_at "z") => `(tactic| with_reducible refine z_c3I ?_)
local macro_rules | `(tactic| walk_at "z") => `(tactic| with_reducible refine z_r2I ?_)
local macro_rules | `(tactic| walk_at "z") => `(tactic| with_reducible refine z_for3 ?_)
local macro_rules | `(tactic| walk_at "z") => `(tactic| with_reducible refine z_tbits ?_)
local macro_rules | `(tactic| walk_at "z") => `(tactic| with_reducible refine z_tbi ?_)
local macro_rules | `(tactic| walk_at "z") => `(tactic| ((with_reducible refine' u_mod ?zl1 ?_); (case zl1 => omega)))
local macro_rules | `(tactic| walk_at "z") => `(tactic| with_reducible refine u_who ?_)
local macro_rules | `(tactic| walk_at "z") => `(tactic| with_reducible refine z_asg2 ?_)
local macro_rules | `(tactic| walk_at "z") => `(tactic| with_reducible refine z_c3S (by simp only [List.length_append, List.length_cons, List.length_nil]; omega) ?_)
local macro_rules | `(tactic| walk_at "z") => `(tactic| with_reducible refine z_tm0 ?_)
local macro_rules | `(tactic| walk_at "z") => `(tactic| with_reducible refine z_tm1 ?_)
local macro_rules | `(tactic| walk_at "z") => `(tactic| with_reducible refine z_isS ?_)
local macro_rules | `(tactic| walk_at "z") => `(tactic| with_reducible refine z_eqS ?_)
local macro_rules | `(tactic| walk_at "z") => `(tactic| with_reducible refine z_neS ?_)
local macro_rules | `(tactic| walk_at "z") => `(tactic| with_reducible refine z_isN ?_)
local macro_rules | `(tactic| walk_at "z") => `(tactic| with_reducible refine z_jsN ?_)
local macro_rules | `(tactic| walk_at "z") => `(tactic| with_reducible refine z_jsC ?_)
local macro_rules | `(tactic| walk_at "z") => `(tactic| with_reducible refine z_fmB ?_)
local macro_rules | `(tactic| walk_at "z") => `(tactic| ((with_reducible refine' z_cLit ?zl1 ?_); (case zl1 => first | with_reducible exact lt_0 | with_reducible exact lt_1 | with_reducible exact lt_2 | with_reducible exact lt_3 | with_reducible exact lt_4 | with_reducible exact lt_5 | with_reducible exact lt_6 | with_reducible exact lt_7 | with_reducible exact lt_8 | with_reducible exact lt_9 | with_reducible exact lt_10 | with_reducible exact lt_11 | with_reducible exact lt_12 | with_reducible exact lt_13 | with_reducible exact lt_14 | with_reducible exact lt_15 | with_reducible exact lt_16 | with_reducible exact lt_17 | with_reducible exact lt_18 | with_reducible exact lt_19 | with_reducible exact lt_20 | with_reducible exact lt_21)))
local macro_rules | `(tactic| walk_at "z") => `(tactic| with_reducible refine z_js0 ?_)
local macro_rules | `(tactic| walk_at "z") => `(tactic| ((with_reducible refine' z_mtR ?zl1 ?_); (case zl1 => walk_at "up")))
theorem same00e {H H1 H2 : Hp} (h : Same H1 H2) (e : Same H H1) : Same H H2 := e.trans h
local macro_rules | `(tactic| walk_at "sm") => `(tactic| first
  | assumption
  | exact fun _ _ h => h
  | (refine' same00e (by assumption) ?zsm; case zsm => walk_at "sm"))
local macro_rules | `(tactic| walk_at "up") => `(tactic| first
  | assumption
  | (with_reducible refine' IsR.mono (by assumption) ?zup; case zup => walk_at "up")
  | (with_reducible refine' Same.at (by assumption) ?zup; case zup => walk_at "up")
  | (with_reducible refine' IsPool.mono (by assumption) ?zup; case zup => walk_at "up")
  | fail)
section
variable {P : Program} {w : World} {K : Frag} {mg : Str → Option Value} {base : Heap}
theorem ok_Ratio_read (L : Lw K mg) {fd : FuncData} (F : FunD K "read" "Ratio.read" (defArgs s_Ratio_read) (defBody s_Ratio_read) (defScope s_Ratio_read) (df_Ratio_read.dvs K) (df_Ratio_read.kws K) (He5.wf K (He.ga K "Ratio") "staticmethod" "read") fd) : FnOk P w K mg base (L2N.CX P w) 3 (He5.wf K (He.ga K "Ratio") "staticmethod" "read") fd (["text"] : List Str) (sp1 (fs_read K)) := by
  refine FunD.ok F sc_Ratio_read len1 (fun cdv A outer s H vs Q E hr h => ?_)
  obtain ⟨x, rfl, h⟩ := h
  refine ⟨_, (pss_cons (ps_set (i := 1) sc_Ratio_read.nd rfl (by first | exact Or.inl rfl | exact Or.inr rfl) (pe_c (c_read_fraction (K := K) L) hr (by decide) (L2N.takes_of rfl rfl rfl rfl) (pa_cons (pv 0) pa_nil)))
    (pss_cons (ps_if (pt_cmpR o_isN (pv 1) pe_non (nomark _)) (pss_one (L2N.ps_raise rfl (L2N.takes_of rfl rfl rfl rfl) (pmk_x (c_BadTextD_initD (K := K) L) hr (by decide) passF (pa_cons (pv 0) pa_nil)))) pss_nil)
    (pss_one (ps_ret (pe_mk (c_RatioD_initD (K := K) L) hr (by decide) (L2N.takes_of rfl rfl rfl rfl) (pa_cons (pe_ix (ix_seqK (K := K) rfl) (pv 1) pe_int (fun _ _ => rfl)) (pa_cons (pe_ix (ix_seqK (K := K) rfl) (pv 1) pe_int (fun _ _ => rfl)) pa_nil))))))), ?_⟩
  obtain ⟨a, rfl, ha, hl, k0, k1⟩ := h
  walk_at "zz"
  refine ⟨_, rfl, a, rfl, ha, hl, fun hn H1 s1 => ?_, fun t d ht p H1 s1 hp => ?_⟩
  · walk_at "zz"
    rw [decide_eq_true rfl]
    walk_at "zz"
    exact z_exo1 (fun d H' s e => k0 hn d H' (s1.trans s) e)
  · obtain ⟨d0, bd, k⟩ := k1 t d ht
    walk_at "zz"
    rw [decide_eq_false (by intro z; cases z)]
    walk_at "zz"
    exact z_mkR (by omega) bd (fun q H' s e => k q H' (s1.trans s) e)
theorem c_Ratio_read (L : Lw K mg) : Sta P w K mg base 3 (He.ga K "Ratio") "read" (sp1 (fs_read K)) [] := by
  obtain ⟨fd, F⟩ := L.d_Ratio_read
  exact ⟨⟨_, _, fd, ["text"], [], L.cr_Ratio, L.sm_Ratio_read, ok_Ratio_read L F, F.kp, F.bindsN (fun _ _ _ _ _ _ us hl => match us, hl with | [_], _ => rfl), .nil⟩⟩
theorem ok_law_refused (L : Lw K mg) {fd : FuncData} (F : FunD K "_law_refused" "_law_refused" (defArgs s_law_refused) (defBody s_law_refused) (defScope s_law_refused) (df_law_refused.dvs K) (df_law_refused.kws K) (He.fAd K ("_law_refused", none)) fd) : FnOk P w K mg base (L2N.CX P w) 4 (He.fAd K ("_law_refused", none)) fd (["text"] : List Str) (sp1 fs_ref) := by
  refine FunD.ok F sc_law_refused len1 (fun cdv A outer s H vs Q E hr h => ?_)
  obtain ⟨x, rfl, h⟩ := h
  refine ⟨_, (pss_cons (L2N.ps_try_as (i := 1) rfl rfl sc_law_refused.nd rfl rfl ⟨rfl, by decide, Or.inl L.g_BadText⟩ (L2N.takes_of rfl rfl rfl rfl)
    (fun W pn xe tk po => (pss_one (ps_expr (pe_sm (c_Ratio_read (K := K) L) hr (by decide) tk (pe_cls L.g_Ratio) (pa_cons (pv 0) pa_nil)))))
    (fun a oe cls dd pn hz hf => (pss_cons (ps_if (PW.pt (pw_or (pt_val (pe_callB (call_isEx L.ec_BadText (L2N.Zn.zc hz) hf) (by rfl) L.f_isinstance (by decide +kernel) (pa_cons (pv 1) (pa_cons (pe_cls L.g_ZeroBottom) pa_nil)))) (pw_or1 (pt_val (pe_callB (call_isEx L.ec_BadText (L2N.Zn.zc hz) hf) (by rfl) L.f_isinstance (by decide +kernel) (pa_cons (pv 1) (pa_cons (pe_cls L.g_OutOfBounds) pa_nil))))))) (pss_one (ps_ret pe_bl)) pss_nil)
    (pss_one (ps_ret (pe_and (pe_callB (call_isEx L.ec_BadText (L2N.Zn.zc hz) hf) (by rfl) L.f_isinstance (by decide +kernel) (pa_cons (pv 1) (pa_cons (pe_cls L.g_NoughtError) pa_nil))) (pe_and (pe_callB (callK rIsi (K := K) rfl call_isi) (by rfl) L.f_isinstance (by decide +kernel) (pa_cons (pe_xf L.xf_BadText L.na_BadText_given (L2N.Zn.zc hz) hf (pv 1)) (pa_cons (pe_ty "str" (by rfl) L.f_str (by decide +kernel)) pa_nil))) (pe_one (pe_cmpR op_eq (pe_xf L.xf_BadText L.na_BadText_given (L2N.Zn.zc hz) hf (pv 1)) (pv 0) (nomark _))))))))))
    (pss_one (ps_ret pe_bl))), ?_⟩
  rw [show L2.start (["text", "e"] : List Str) [x] = [some x, none] from rfl]
  obtain ⟨a, rfl, ha, hl, hn, k⟩ := h
  try dsimp only [List.set]
  walk_at "zz"
  refine ⟨_, rfl, a, rfl, ha, hl, fun _ d H1 s1 hd => ?_, fun t d ht => by rw [hn] at ht; cases ht⟩
  refine z_as L.xm_BadText_BadText (fun a2 ha2 => ?_)
  try dsimp only [List.set]
  walk_at "zz"
  refine z_isX hd L.kt_BadText_ZeroBottom ?_
  try dsimp only [List.set]
  walk_at "zz"
  refine z_isX hd L.kt_BadText_OutOfBounds ?_
  try dsimp only [List.set]
  walk_at "zz"
  refine z_isX hd L.kt_BadText_NoughtError ?_
  try dsimp only [List.set]
  walk_at "zz"
  refine z_xf hd lkA ?_
  try dsimp only [List.set]
  walk_at "zz"
  refine z_isiS (b := true) (by decide +kernel) ?_
  try dsimp only [List.set]
  walk_at "zz"
  refine z_xf hd lkA ?_
  try dsimp only [List.set]
  walk_at "zz"
  rw [decide_eq_true rfl]
  exact k _ s1
theorem c_law_refused (L : Lw K mg) : Cal P w K mg base 4 "_law_refused" (sp1 fs_ref) [] := by
  obtain ⟨fd, F⟩ := L.d_law_refused
  exact ⟨⟨_, fd, ["text"], [], ok_law_refused L F, L.g_law_refused, F.kp, F.bindsN (fun _ _ _ _ _ _ us hl => match us, hl with | [_], _ => rfl), .nil⟩⟩
theorem ok_law_written (L : Lw K mg) {fd : FuncData} (F : FunD K "_law_written" "_law_written" (defArgs s_law_written) (defBody s_law_written) (defScope s_law_written) (df_law_written.dvs K) (df_law_written.kws K) (He.fAd K ("_law_written", none)) fd) : FnOk P w K mg base (L2N.CX P w) 2 (He.fAd K ("_law_written", none)) fd (["a", "one"] : List Str) (sp2 (fs_wri K)) := by
  refine FunD.ok F sc_law_written len2 (fun cdv A outer s H vs Q E hr h => ?_)
  obtain ⟨x, y, rfl, h⟩ := h
  refine ⟨_, (pss_cons (ps_set (i := 2) sc_law_written.nd rfl (by first | exact Or.inl rfl | exact Or.inr rfl) (pe_mt0 (c_Ratio_text (K := K) L) hr (by decide) (L2N.takes_of rfl rfl rfl rfl) (pv 0)))
    (pss_one (ps_ret (pe_and (pe_callB (callK rIsi (K := K) rfl call_isi) (by rfl) L.f_isinstance (by decide +kernel) (pa_cons (pv 2) (pa_cons (pe_ty "str" (by rfl) L.f_str (by decide +kernel)) pa_nil))) (pe_one (pe_cmpR op_eq (pv 2) (pe_c (c_law_text (K := K) L) hr (by decide) (L2N.takes_of rfl rfl rfl rfl) (pa_cons (pv 1) pa_nil)) (nomark _))))))), ?_⟩
  obtain ⟨a, t, p, q, rfl, rfl, ha, ht, hx, k⟩ := h
  have tp := hx.tp
  have ln := hx.ln
  walk_at "zz"
  refine ⟨_, rfl, a, p, q, rfl, ha, tp.1, tp.2, by omega, by omega, ?_⟩
  walk_at "zz"
  refine z_isiS (b := true) (by decide +kernel) ?_
  walk_at "zz"
  refine ⟨_, rfl, t, p, q, rfl, ht, tp.1, tp.2, by omega, by omega, ?_⟩
  walk_at "zz"
  rw [decide_eq_true rfl]
  exact k
theorem c_law_written (L : Lw K mg) : Cal P w K mg base 2 "_law_written" (sp2 (fs_wri K)) [] := by
  obtain ⟨fd, F⟩ := L.d_law_written
  exact ⟨⟨_, fd, ["a", "one"], [], ok_law_written L F, L.g_law_written, F.kp, F.bindsN (fun _ _ _ _ _ _ us hl => match us, hl with | [_, _], _ => rfl), .nil⟩⟩
theorem ok_law_read (L : Lw K mg) {fd : FuncData} (F : FunD K "_law_read" "_law_read" (defArgs s_law_read) (defBody s_law_read) (defScope s_law_read) (df_law_read.dvs K) (df_law_read.kws K) (He.fAd K ("_law_read", none)) fd) : FnOk P w K mg base (L2N.CX P w) 5 (He.fAd K ("_law_read", none)) fd (["one"] : List Str) (sp1 fs_rd) := by
  refine FunD.ok F sc_law_read len1 (fun cdv A outer s H vs Q E hr h => ?_)
  obtain ⟨x, rfl, h⟩ := h
  refine ⟨_, (pss_cons (ps_set (i := 1) sc_law_read.nd rfl (by first | exact Or.inl rfl | exact Or.inr rfl) (pe_c (c_law_text (K := K) L) hr (by decide) (L2N.takes_of rfl rfl rfl rfl) (pa_cons (pv 0) pa_nil)))
    (pss_cons (ps_if (PW.pt (pw_or (pt_cmpR o_gt (pe_callB (callK rLen1 (K := K) rfl o_len) (by rfl) L.f_len (by decide +kernel) (pa_cons (pe_callTy (call_strB (K := K) rfl rfl L.dig) (by rfl) L.f_str (by decide +kernel) (pa_cons (pe_callB o_abs (by rfl) L.f_abs (by decide +kernel) (pa_cons (pe_ix (ix_seqK (K := K) rfl) (pv 0) pe_int (fun _ _ => rfl)) pa_nil)) pa_nil)) pa_nil)) pe_int (nomark _)) (pw_or1 (pt_cmpR o_gt (pe_callB (callK rLen1 (K := K) rfl o_len) (by rfl) L.f_len (by decide +kernel) (pa_cons (pe_callTy (call_strB (K := K) rfl rfl L.dig) (by rfl) L.f_str (by decide +kernel) (pa_cons (pe_ix (ix_seqK (K := K) rfl) (pv 0) pe_int (fun _ _ => rfl)) pa_nil)) pa_nil)) pe_int (nomark _))))) (pss_one (ps_ret (pe_c (c_law_refused (K := K) L) hr (by decide) (L2N.takes_of rfl rfl rfl rfl) (pa_cons (pv 1) pa_nil)))) pss_nil)
    (pss_one (ps_ret (pe_c (c_law_is (K := K) L) hr (by decide) (L2N.takes_of rfl rfl rfl rfl) (pa_cons (pe_sm (c_Ratio_read (K := K) L) hr (by decide) (L2N.takes_of rfl rfl rfl rfl) (pe_cls L.g_Ratio) (pa_cons (pv 1) pa_nil)) (pa_cons (pv 0) pa_nil))))))), ?_⟩
  obtain ⟨t, p, q, rfl, ht, hx, k⟩ := h
  have tp := hx.tp
  have ln := hx.ln
  have lt := txt_len ln.1 ln.2
  have hq := hx.pos
  have la : (TL.numL p.natAbs).length ≤ 701 := by
    rw [← num_abs]
    exact S00.len_num (by decide) (by rw [Int.natAbs_natCast]; exact hx.bp)
  walk_at "zz"
  refine ⟨_, rfl, t, p, q, rfl, ht, tp.1, tp.2, by omega, by omega, ?_⟩
  walk_at "zz"
  refine z_strB (by rw [Int.natAbs_natCast]; exact tp.1) ?_
  rw [num_abs]
  walk_at "zz"
  refine z_lenSt (by omega) ?_
  walk_at "zz"
  refine z_d2 (fun c => ?_) (fun c => ?_)
  · walk_at "zz"
    exact ⟨_, rfl, _, rfl, S00.asc_txt p q, by omega, S00.rf_far (by omega) (.inl (by omega)), k⟩
  · walk_at "zz"
    refine z_strB tp.2 ?_
    rw [S00.num_nn (by omega : 0 ≤ q)]
    rw [S00.num_nn (by omega : 0 ≤ q)] at ln
    walk_at "zz"
    refine z_lenSt (by omega) ?_
    walk_at "zz"
    refine z_d2 (fun c2 => ?_) (fun c2 => ?_)
    · walk_at "zz"
      exact ⟨_, rfl, _, rfl, S00.asc_txt p q, by omega, S00.rf_far (by omega) (.inr (by omega)), k⟩
    · walk_at "zz"
      have e1 := S00.rf_txt (by omega) hx.g (by omega) (by omega)
      refine ⟨_, rfl, _, rfl, S00.asc_txt p q, by omega, (fun hn => by rw [e1] at hn; cases hn), fun t2 d2 h2 => ?_⟩
      rw [e1] at h2
      cases h2
      refine ⟨hx.pos, hx.bits, fun c1 H1 s1 h1 => ?_⟩
      obtain ⟨er, eb⟩ := rt_low (n := p) hx.pos hx.g
      rw [er, eb] at h1
      walk_at "zz"
      exact ⟨_, _, rfl, c1, t, p, q, rfl, rfl, h1, s1 _ _ ht, k _ s1⟩
theorem c_law_read (L : Lw K mg) : Cal P w K mg base 5 "_law_read" (sp1 fs_rd) [] := by
  obtain ⟨fd, F⟩ := L.d_law_read
  exact ⟨⟨_, fd, ["one"], [], ok_law_read L F, L.g_law_read, F.kp, F.bindsN (fun _ _ _ _ _ _ us hl => match us, hl with | [_], _ => rfl), .nil⟩⟩
end
end T
set_option maxHeartbeats 4000000
namespace T
open PySem PySem.Spec PyProof.Rows L2 Z
def wrongs (p q : Int) : List (List Nat) := [[], [45], [47], [45, 48], [45, 48, 47, 53], [43] ++ S00.txt p q, [48] ++ S00.txt p q, [45, 45] ++ S00.txt p q] ++ [S00.txt p q ++ [10], S00.txt p q ++ [32], [32] ++ S00.txt p q, S00.txt p q ++ [95, 48], S00.txt p q ++ [120]]
  ++ [S00.txt p q ++ [47], [47] ++ S00.txt p q, S00.txt p q ++ [47, 49], S00.txt p q ++ [46, 48], S00.num p ++ [47, 48]]
  ++ [S00.num p ++ [47, 48] ++ S00.num q, S00.num p ++ [47, 32] ++ S00.num q, S00.num p ++ [32, 47] ++ S00.num q]
  ++ [S00.num p ++ [47, 43] ++ S00.num q, S00.num (-p) ++ [47, 45] ++ S00.num q] ++ [S00.num (2 * p) ++ [47] ++ S00.num (2 * q)]
section
open S00
theorem asc_of {a : List Nat} (h : a.all (fun c => decide (c < 128)) = true) : asc a := fun c m => of_decide_eq_true (List.all_eq_true.mp h c m)
theorem as3 {x y z : List Nat} (h1 : asc x) (h2 : asc y) (h3 : asc z) : asc (x ++ y ++ z) := asc_app (asc_app h1 h2) h3
theorem wrongs_bad {p q : Int} (hq : 1 ≤ q) : ∀ a, a ∈ wrongs p q → asc a ∧ rf a = none := by
  intro a m
  unfold wrongs at m
  simp only [List.mem_append, List.mem_cons, List.not_mem_nil, or_false] at m
  have at_ := asc_txt p q
  have ap := asc_int p
  have aq := asc_int q
  have an := asc_int (-p)
  have b : ∀ {l : List Nat}, l.all (fun c => decide (c < 128)) = true → asc l := fun h => asc_of h
  rcases m with (((((h | h | h | h | h | h | h | h) | h | h | h | h | h) | h | h | h | h | h) | h | h | h) | h | h) | h <;> subst h
  · exact ⟨b rfl, by decide +kernel⟩
  · exact ⟨b rfl, by decide +kernel⟩
  · exact ⟨b rfl, by decide +kernel⟩
  · exact ⟨b rfl, by decide +kernel⟩
  · exact ⟨b rfl, by decide +kernel⟩
  · exact ⟨asc_app (b rfl) at_, bad_first (x := 43) (a := S00.txt p q) (by decide) (by decide) rfl⟩
  · exact ⟨asc_app (b rfl) at_, bad_zero p q⟩
  · exact ⟨asc_app (b rfl) at_, bad_minus (S00.txt p q)⟩
  · exact ⟨asc_app at_ (b rfl), bad_end (c := 10) hq (by decide) (by decide) rfl⟩
  · exact ⟨asc_app at_ (b rfl), bad_end (c := 32) hq (by decide) (by decide) rfl⟩
  · exact ⟨asc_app (b rfl) at_, bad_first (x := 32) (a := S00.txt p q) (by decide) (by decide) rfl⟩
  · exact ⟨asc_app at_ (b rfl), bad_end (c := 95) hq (by decide) (by decide) rfl⟩
  · exact ⟨asc_app at_ (b rfl), bad_end (c := 120) hq (by decide) (by decide) rfl⟩
  · exact ⟨asc_app at_ (b rfl), bad_sl hq⟩
  · exact ⟨asc_app (b rfl) at_, bad_slash (S00.txt p q)⟩
  · exact ⟨asc_app at_ (b rfl), bad_one hq⟩
  · exact ⟨asc_app at_ (b rfl), bad_end (c := 46) hq (by decide) (by decide) rfl⟩
  · exact ⟨asc_app ap (b rfl), bad_low0 p⟩
  · refine ⟨as3 ap (b rfl) aq, ?_⟩
    rw [List.append_assoc]
    exact bad_lowz p q
  · refine ⟨as3 ap (b rfl) aq, ?_⟩
    rw [List.append_assoc]
    exact bad_low1 rfl
  · refine ⟨as3 ap (b rfl) aq, ?_⟩
    rw [List.append_assoc]
    exact bad_mid p _
  · refine ⟨as3 ap (b rfl) aq, ?_⟩
    rw [List.append_assoc]
    exact bad_low1 rfl
  · refine ⟨as3 an (b rfl) aq, ?_⟩
    rw [List.append_assoc]
    exact bad_low1 rfl
  · refine ⟨as3 (asc_int _) (b rfl) (asc_int _), ?_⟩
    rw [List.append_assoc]
    exact bad_two p q hq
theorem wrongs_len {p q : Int} {n : Nat} (h1 : (num p).length ≤ n) (h2 : (num q).length ≤ n) (h3 : (num (-p)).length ≤ n) (h4 : (num (2 * p)).length ≤ n) (h5 : (num (2 * q)).length ≤ n) : ∀ a, a ∈ wrongs p q → a.length ≤ 2 * n + 10 := by
  intro a m
  have lt := txt_len h1 h2
  unfold wrongs at m
  simp only [List.mem_append, List.mem_cons, List.not_mem_nil, or_false] at m
  rcases m with (((((h | h | h | h | h | h | h | h) | h | h | h | h | h) | h | h | h | h | h) | h | h | h) | h | h) | h <;> subst h <;> simp only [List.length_append, List.length_cons, List.length_nil] <;> omega
end
theorem dbl {p : Int} (h : p.natAbs < 10 ^ 700) : (2 * p).natAbs < 10 ^ 701 := by
  have e : (10 : Nat) ^ 701 = 10 ^ 700 * 10 := by decide +kernel
  rw [e]
  generalize (10 : Nat) ^ 700 = T at *
  omega
theorem t701 : (10 : Nat) ^ 701 < 10 ^ 4300 := by decide +kernel
theorem Lx.ln2 {p q : Int} (h : Lx p q) : (S00.num p).length ≤ 702 ∧ (S00.num q).length ≤ 702 ∧ (S00.num (-p)).length ≤ 702 ∧ (S00.num (2 * p)).length ≤ 702 ∧ (S00.num (2 * q)).length ≤ 702 := by
  have a := h.ln
  refine ⟨by omega, by omega, ?_, S00.len_num (by decide) (dbl h.bp), S00.len_num (by decide) (dbl h.bq)⟩
  have := S00.len_num (z := -p) (k := 700) (by decide) (by rw [Int.natAbs_neg]; exact h.bp)
  omega
def fs_long : F1 := fun x H Q _ => ∃ k : Nat, x = .int ((k + 1 : Nat) : Int) ∧ 290 ≤ k ∧ k ≤ 320 ∧ ∀ H', Same H H' → Q (.bl true) H'
def fs_wrong : F1 := fun x H Q _ => ∃ (t : Addr) (p q : Int), x = .ref t ∧ H t = some (.tup [.int p, .int q]) ∧ Lx p q ∧ ∀ l H', Same H H' → H' l = some (.lst ((wrongs p q).map (fun a => V.str (SX.S a)))) → Q (.ref l) H'
theorem tens {k : Nat} (hk : 1 ≤ k) : TL.numL (10 ^ k) = S00.txt (((10 : Nat) ^ k : Nat) : Int) 1 ∧ [45] ++ TL.numL (10 ^ k) = S00.txt (-(((10 : Nat) ^ k : Nat) : Int)) 1 ∧ [49, 47] ++ TL.numL (10 ^ k) = S00.txt 1 (((10 : Nat) ^ k : Nat) : Int) := by
  have p0 : 10 ≤ 10 ^ k := by
    obtain ⟨j, rfl⟩ : ∃ j, k = j + 1 := ⟨k - 1, by omega⟩
    rw [Nat.pow_succ]
    have := Nat.pow_pos (n := j) (show 0 < 10 by decide)
    omega
  have n1 : S00.num ((10 ^ k : Nat) : Int) = TL.numL (10 ^ k) := by rw [S00.num_nn (by omega), Int.natAbs_natCast]
  refine ⟨?_, ?_, ?_⟩
  · unfold S00.txt
    rw [if_pos rfl, n1]
  · unfold S00.txt
    rw [if_pos rfl, S00.num_neg (by omega), n1]
    rfl
  · unfold S00.txt
    rw [if_neg (by omega), n1, S00.num_nn (by decide)]
    have : TL.numL (1 : Int).natAbs = [49] := TL.numL_lt (by decide)
    rw [this]
    rfl
theorem g_1 (x : Int) : Int.gcd x 1 = 1 := by simp
theorem g_2 (x : Int) : Int.gcd 1 x = 1 := by simp
local macro_rules | `(tactic| walk_at "up") => `(tactic| first
  | assumption
  | (refine' IsR.mono (by assumption) ?zup; case zup => walk_at "up")
  | (refine' IsE.mono (by assumption) ?zup; case zup => walk_at "up")
  | (refine' Same.at (by assumption) ?zup; case zup => walk_at "up")
  | (refine' SqL.of ?zup; case zup => walk_at "up")
  | (refine' L2.Same.seq (by assumption) ?zup; case zup => walk_at "up"))
local macro_rules | `(tactic| walk_at "z") => `(tactic| first
  | ((with_reducible refine' z_var ?zvh ?_); (case zvh => exact rfl))
  | with_reducible refine z_c ?_
  | with_reducible refine z_cons ?_
  | with_reducible refine z_nil ?_
  | with_reducible refine z_op ?_
  | with_reducible refine z_nx ?_
  | with_reducible refine z_seq ?_
  | with_reducible refine z_asg ?_
  | with_reducible refine z_asgG ?_
  | with_reducible refine z_call ?_
  | with_reducible refine z_sq0 ?_
  | with_reducible refine z_sq1 ?_
  | with_reducible refine z_ifS ?_
  | with_reducible refine z_test ?_
  | with_reducible refine z_tb ?_
  | with_reducible refine z_bl ?_
  | with_reducible refine z_blI ?_
  | with_reducible refine z_ret ?_
  | with_reducible refine z_rt ?_
  | with_reducible refine z_T ?_
  | with_reducible refine z_F ?_
  | with_reducible refine z_add ?_
  | with_reducible refine z_sub ?_
  | with_reducible refine z_neg ?_
  | with_reducible refine z_un ?_
  | with_reducible refine z_eqI ?_
  | with_reducible refine z_neI ?_
  | with_reducible refine z_lt ?_
  | with_reducible refine z_le ?_
  | with_reducible refine z_gt ?_
  | with_reducible refine z_ge ?_
  | with_reducible refine z_not ?_
  | with_reducible refine z_and ?_
  | with_reducible refine z_or ?_
  | with_reducible refine z_andV ?_
  | with_reducible refine z_orV ?_
  | with_reducible refine z_notV ?_
  | with_reducible refine z_if ?_
  | with_reducible refine z_cb ?_
  | with_reducible refine z_int1 ?_
  | with_reducible refine z_intb ?_
  | with_reducible refine z_abs ?_
  | with_reducible refine z_gcd ?_
  | with_reducible refine z_isi_ii ?_
  | with_reducible refine z_isi_ib ?_
  | with_reducible refine z_next ?_
  | with_reducible refine z_drop ?_
  | with_reducible refine z_par ?_
  | with_reducible refine z_par2 ?_
  | with_reducible refine z_tupN ?_
  | with_reducible refine z_lstN ?_
  | ((with_reducible refine' z_nt ?zl1 ?_); (case zl1 => exact Nat.le_of_ble_eq_true rfl); intro p H' hp hs he)
  | ((with_reducible refine' z_gtup ?zl1 ?zl2 ?_); (case zl1 => walk_at "up"); (case zl2 => exact rfl))
  | with_reducible refine z_bk ?_
  | with_reducible refine z_ct ?_
  | with_reducible refine z_break ?_
  | with_reducible refine z_cont ?_
  | with_reducible refine z_retN ?_
  | with_reducible refine z_nn ?_
  | with_reducible refine z_mk ?_
  | with_reducible refine z_gn ?_
  | with_reducible refine z_gcons ?_
  | with_reducible refine z_gnil ?_
  | with_reducible refine z_mt ?_
  | with_reducible refine z_mko ?_
  | with_reducible refine z_for2 ?_
  | with_reducible refine z_ownI ?_
  | ((with_reducible refine' z_lenL ?zl1 ?_); (case zl1 => walk_at "up"))
  | ((with_reducible refine' z_ixT ?zl1 ?zl2 ?_); (case zl1 => walk_at "up"); (case zl2 => exact rfl))
  | ((with_reducible refine' z_mulL ?zl1 ?zl2 ?_); (case zl1 => omega); (case zl2 => omega))
  | ((with_reducible refine' z_mulR ?zl1 ?zl2 ?_); (case zl1 => omega); (case zl2 => omega))
  | ((with_reducible refine' z_divS ?zl1 ?zl2 ?_); (case zl1 => omega); (case zl2 => omega))
  | ((with_reducible refine' z_mulW ?zl1 ?zl2 ?zl3 ?zl4 ?_); (case zl1 => omega); (case zl2 => omega); (case zl3 => omega); (case zl4 => omega))
  | ((with_reducible refine' z_divW ?zl1 ?zl2 ?_); (case zl1 => omega); (case zl2 => omega)))
local macro_rules | `(tactic| walk_at "zz") => `(tactic| repeat (walk_at "z"))
local macro_rules | `(tactic| walk_at "z") => `(tactic| with_reducible refine z_lstN ?_)
local macro_rules | `(tactic| walk_at "z") => `(tactic| with_reducible refine z_p6 ?_)
local macro_rules | `(tactic| walk_at "z") => `(tactic| with_reducible refine z_p12 ?_)
local macro_rules | `(tactic| walk_at "z") => `(tactic| with_reducible refine z_p13 ?_)
local macro_rules | `(tactic| walk_at "z") => `(tactic| with_reducible refine z_calln ?_)
local macro_rules | `(tactic| walk_at "z") => `(tactic| with_reducible refine z_xfS ?_)
local macro_rules | `(tactic| walk_at "z") => `(tactic| with_reducible refine z_lcS ?_)
local macro_rules | `(tactic| walk_at "z") => `(tactic| with_reducible refine z_lcRS ?_)
local macro_rules | `(tactic| walk_at "z") => `(tactic| with_reducible refine z_lcZS ?_)
local macro_rules | `(tactic| walk_at "z") => `(tactic| with_reducible refine z_foS ?_)
local macro_rules | `(tactic| walk_at "z") => `(tactic| with_reducible refine z_for1 ?_)
local macro_rules | `(tactic| walk_at "z") => `(tactic| with_reducible refine z_tsl ?_)
local macro_rules | `(tactic| walk_at "z") => `(tactic| with_reducible refine z_np ?_)
local macro_rules | `(tactic| walk_at "z") => `(tactic| with_reducible refine z_pt ?_)
local macro_rules | `(tactic| walk_at "z") => `(tactic| with_reducible refine z_pti ?_)
local macro_rules | `(tactic| walk_at "z") => `(tactic| with_reducible refine z_catI ?_)
local macro_rules | `(tactic| walk_at "z") => `(tactic| with_reducible refine z_isNI ?_)
local macro_rules | `(tactic| walk_at "z") => `(tactic| with_reducible refine z_isNN ?_)
local macro_rules | `(tactic| walk_at "z") => `(tactic| with_reducible refine z_notNI ?_)
local macro_rules | `(tactic| walk_at "z") => `(tactic| with_reducible refine z_notNN ?_)
local macro_rules | `(tactic| walk_at "z") => `(tactic| with_reducible refine z_gsub ?_)
local macro_rules | `(tactic| walk_at "z") => `(tactic| with_reducible refine z_isNb ?_)
local macro_rules | `(tactic| walk_at "z") => `(tactic| with_reducible refine z_notNb ?_)
local macro_rules | `(tactic| walk_at "z") => `(tactic| ((with_reducible refine' z_nlR ?zl1 ?_); (case zl1 => exact Nat.le_of_ble_eq_true rfl); intro p H' hp hs he))
local macro_rules | `(tactic| walk_at "z") => `(tactic| ((with_reducible refine' z_repR ?zl1 ?zl2 ?_); (case zl1 => omega); (case zl2 => omega)))
local macro_rules | `(tactic| walk_at "z") => `(tactic| ((with_reducible refine' z_repL ?zl1 ?zl2 ?_); (case zl1 => omega); (case zl2 => omega)))
local macro_rules | `(tactic| walk_at "z") => `(tactic| ((with_reducible refine' z_lenLst ?zl1 ?_); (case zl1 => walk_at "up")))
local macro_rules | `(tactic| walk_at "z") => `(tactic| ((with_reducible refine' z_cat ?zl1 ?zl2 ?zl3 ?_); (case zl1 => walk_at "up"); (case zl2 => walk_at "up"); (case zl3 => (simp only [List.length_map, List.length_cons, List.length_nil, List.length_append, List.length_replicate]; omega)); intro p H' hp hs he))
local macro_rules | `(tactic| walk_at "z") => `(tactic| with_reducible refine z_sfl ?_)
local macro_rules | `(tactic| walk_at "z") => `(tactic| with_reducible refine z_lcES ?_)
local macro_rules | `(tactic| walk_at "z") => `(tactic| with_reducible refine z_lcMS ?_)
local macro_rules | `(tactic| walk_at "z") => `(tactic| with_reducible refine z_foES ?_)
local macro_rules | `(tactic| walk_at "z") => `(tactic| with_reducible refine z_fo3S ?_)
local macro_rules | `(tactic| walk_at "z") => `(tactic| with_reducible refine z_sta ?_)
local macro_rules | `(tactic| walk_at "z") => `(tactic| with_reducible refine z_sta1 ?_)
local macro_rules | `(tactic| walk_at "z") => `(tactic| ((with_reducible refine' z_fldt ?zc1 ?zc2 ?zl1 ?zl2 ?_); (case zc1 => exact Lw.cl_Ratio (by assumption)); (case zc2 => exact Lw.na_Ratio_top (by assumption)); (case zl1 => exact rfl); (case zl2 => walk_at "up")))
local macro_rules | `(tactic| walk_at "z") => `(tactic| ((with_reducible refine' z_fldb ?zc1 ?zc2 ?zl1 ?zl2 ?_); (case zc1 => exact Lw.cl_Ratio (by assumption)); (case zc2 => exact Lw.na_Ratio_bottom (by assumption)); (case zl1 => exact rfl); (case zl2 => walk_at "up")))
local macro_rules | `(tactic| walk_at "z") => `(tactic| with_reducible refine z_c3I ?_)
local macro_rules | `(tactic| walk_at "z") => `(tactic| with_reducible refine z_r2I ?_)
local macro_rules | `(tactic| walk_at "z") => `(tactic| with_reducible refine z_for3 ?_)
local macro_rules | `(tactic| walk_at "z") => `(tactic| with_reducible refine z_tbits ?_)
local macro_rules | `(tactic| walk_at "z") => `(tactic| with_reducible refine z_tbi ?_)
local macro_rules | `(tactic| walk_at "z") => `(tactic| ((with_reducible refine' u_mod ?zl1 ?_); (case zl1 => omega)))
local macro_rules | `(tactic| walk_at "z") => `(tactic| with_reducible refine u_who ?_)
local macro_rules | `(tactic| walk_at "z") => `(tactic| with_reducible refine z_asg2 ?_)
local macro_rules | `(tactic| walk_at "z") => `(tactic| with_reducible refine z_c3S (by simp only [List.length_append, List.length_cons, List.length_nil]; omega) ?_)
local macro_rules | `(tactic| walk_at "z") => `(tactic| with_reducible refine z_tm0 ?_)
local macro_rules | `(tactic| walk_at "z") => `(tactic| with_reducible refine z_tm1 ?_)
local macro_rules | `(tactic| walk_at "z") => `(tactic| with_reducible refine z_isS ?_)
local macro_rules | `(tactic| walk_at "z") => `(tactic| with_reducible refine z_eqS ?_)
local macro_rules | `(tactic| walk_at "z") => `(tactic| with_reducible refine z_neS ?_)
local macro_rules | `(tactic| walk_at "z") => `(tactic| with_reducible refine z_isN ?_)
local macro_rules | `(tactic| walk_at "z") => `(tactic| with_reducible refine z_jsN ?_)
local macro_rules | `(tactic| walk_at "z") => `(tactic| with_reducible refine z_jsC ?_)
local macro_rules | `(tactic| walk_at "z") => `(tactic| with_reducible refine z_fmB ?_)
local macro_rules | `(tactic| walk_at "z") => `(tactic| ((with_reducible refine' z_cLit ?zl1 ?_); (case zl1 => first | with_reducible exact lt_0 | with_reducible exact lt_1 | with_reducible exact lt_2 | with_reducible exact lt_3 | with_reducible exact lt_4 | with_reducible exact lt_5 | with_reducible exact lt_6 | with_reducible exact lt_7 | with_reducible exact lt_8 | with_reducible exact lt_9 | with_reducible exact lt_10 | with_reducible exact lt_11 | with_reducible exact lt_12 | with_reducible exact lt_13 | with_reducible exact lt_14 | with_reducible exact lt_15 | with_reducible exact lt_16 | with_reducible exact lt_17 | with_reducible exact lt_18 | with_reducible exact lt_19 | with_reducible exact lt_20 | with_reducible exact lt_21)))
local macro_rules | `(tactic| walk_at "z") => `(tactic| with_reducible refine z_js0 ?_)
local macro_rules | `(tactic| walk_at "z") => `(tactic| ((with_reducible refine' z_mtR ?zl1 ?_); (case zl1 => walk_at "up")))
local macro_rules | `(tactic| walk_at "z") => `(tactic| ((with_reducible refine' z_c3L ?zl1 ?zl2 ?zl3 ?_); (case zl1 => walk_at "up"); (case zl2 => walk_at "up"); (case zl3 => (simp only [List.length_append, List.length_cons, List.length_nil]; decide)); intro p H' hp hs he))
theorem same00f {H H1 H2 : Hp} (h : Same H1 H2) (e : Same H H1) : Same H H2 := e.trans h
local macro_rules | `(tactic| walk_at "sm") => `(tactic| first
  | assumption
  | exact fun _ _ h => h
  | (refine' same00f (by assumption) ?zsm; case zsm => walk_at "sm"))
local macro_rules | `(tactic| walk_at "up") => `(tactic| first
  | assumption
  | (with_reducible refine' IsR.mono (by assumption) ?zup; case zup => walk_at "up")
  | (with_reducible refine' Same.at (by assumption) ?zup; case zup => walk_at "up")
  | (with_reducible refine' IsPool.mono (by assumption) ?zup; case zup => walk_at "up")
  | fail)
section
variable {P : Program} {w : World} {K : Frag} {mg : Str → Option Value} {base : Heap}
theorem ok_law_long (L : Lw K mg) {fd : FuncData} (F : FunD K "_law_long" "_law_long" (defArgs s_law_long) (defBody s_law_long) (defScope s_law_long) (df_law_long.dvs K) (df_law_long.kws K) (He.fAd K ("_law_long", none)) fd) : FnOk P w K mg base (L2N.CX P w) 5 (He.fAd K ("_law_long", none)) fd (["count"] : List Str) (sp1 fs_long) := by
  refine FunD.ok F sc_law_long len1 (fun cdv A outer s H vs Q E hr h => ?_)
  obtain ⟨x, rfl, h⟩ := h
  refine ⟨_, (pss_cons (ps_set (i := 1) sc_law_long.nd rfl (by first | exact Or.inl rfl | exact Or.inr rfl) (pe_op o_cat3 pe_str (pe_op o_rep2 pe_str (pe_op o_sub (pv 0) pe_int))))
    (pss_cons (ps_set (i := 2) sc_law_long.nd rfl (by first | exact Or.inl rfl | exact Or.inr rfl) (pe_c (c_law_ten (K := K) L) hr (by decide) (L2N.takes_of rfl rfl rfl rfl) (pa_cons (pe_op o_sub (pv 0) pe_int) pa_nil)))
    (pss_cons (ps_if (pt_cmpR o_gt (pv 0) pe_int (nomark _)) (pss_cons (ps_if (PW.pt (pw_or (pt_not (pt_val (pe_c (c_law_refused (K := K) L) hr (by decide) (L2N.takes_of rfl rfl rfl rfl) (pa_cons (pv 1) pa_nil)))) (pw_or1 (pt_not (pt_val (pe_c (c_law_refused (K := K) L) hr (by decide) (L2N.takes_of rfl rfl rfl rfl) (pa_cons (pe_op o_cat3 pe_str (pv 1)) pa_nil))))))) (pss_one (ps_ret pe_bl)) pss_nil)
    (pss_one (ps_ret (pe_c (c_law_refused (K := K) L) hr (by decide) (L2N.takes_of rfl rfl rfl rfl) (pa_cons (pe_op o_cat3 pe_str (pv 1)) pa_nil))))) pss_nil)
    (pss_cons (ps_if (pt_not (pt_val (pe_c (c_law_is (K := K) L) hr (by decide) (L2N.takes_of rfl rfl rfl rfl) (pa_cons (pe_sm (c_Ratio_read (K := K) L) hr (by decide) (L2N.takes_of rfl rfl rfl rfl) (pe_cls L.g_Ratio) (pa_cons (pv 1) pa_nil)) (pa_cons (pe_tup (pa_cons (pv 2) (pa_cons pe_int pa_nil))) pa_nil))))) (pss_one (ps_ret pe_bl)) pss_nil)
    (pss_cons (ps_if (pt_not (pt_val (pe_c (c_law_is (K := K) L) hr (by decide) (L2N.takes_of rfl rfl rfl rfl) (pa_cons (pe_sm (c_Ratio_read (K := K) L) hr (by decide) (L2N.takes_of rfl rfl rfl rfl) (pe_cls L.g_Ratio) (pa_cons (pe_op o_cat3 pe_str (pv 1)) pa_nil)) (pa_cons (pe_tup (pa_cons pe_int (pa_cons (pv 2) pa_nil))) pa_nil))))) (pss_one (ps_ret pe_bl)) pss_nil)
    (pss_one (ps_ret (pe_c (c_law_is (K := K) L) hr (by decide) (L2N.takes_of rfl rfl rfl rfl) (pa_cons (pe_sm (c_Ratio_read (K := K) L) hr (by decide) (L2N.takes_of rfl rfl rfl rfl) (pe_cls L.g_Ratio) (pa_cons (pe_op o_cat3 pe_str (pv 1)) pa_nil)) (pa_cons (pe_tup (pa_cons (pe_un o_neg (pv 2)) (pa_cons pe_int pa_nil))) pa_nil)))))))))), ?_⟩
  rw [show L2.start (["count", "text", "power"] : List Str) [x] = [some x, none, none] from rfl]
  obtain ⟨k, rfl, hk, hk2, q⟩ := h
  obtain ⟨e1, e2, e3⟩ := tens (k := k) (by omega)
  have ll := S00.len_ten k
  have lr : (List.replicate k 48).length = k := List.length_replicate
  have na : ((((10 : Nat) ^ k : Nat) : Int)).natAbs = 10 ^ k := Int.natAbs_natCast _
  have nb : (-(((10 : Nat) ^ k : Nat) : Int)).natAbs = 10 ^ k := by rw [Int.natAbs_neg, Int.natAbs_natCast]
  have l1 : (TL.numL (1 : Int).natAbs).length = 1 := by
    rw [TL.numL_lt (by decide)]
    rfl
  have P0 : 1 ≤ (((10 : Nat) ^ k : Nat) : Int) := by
    have := Nat.pow_pos (n := k) (show 0 < 10 by decide)
    omega
  have bt := (ten_bits (k := k) (by omega)).up (show 1600 ≤ 8999 by decide)
  try dsimp only [List.set]
  walk_at "zz"
  rw [show ((k + 1 : Nat) : Int) - 1 = (k : Int) by omega]
  refine z_r2S (by omega) (by omega) 48 ?_
  rw [Int.toNat_natCast]
  refine z_c3S (by rw [lr]; simp only [List.length_cons, List.length_nil]; omega) ?_
  rw [show [49] ++ List.replicate k 48 = TL.numL (10 ^ k) from (S00.num_ten k).symm]
  try dsimp only [List.set]
  walk_at "zz"
  rw [show ((k + 1 : Nat) : Int) - 1 = (k : Int) by omega]
  refine ⟨_, rfl, k, rfl, by omega, ?_⟩
  try dsimp only [List.set]
  walk_at "zz"
  refine z_d2 (fun c => ?_) (fun c => ?_)
  · try dsimp only [List.set]
    walk_at "zz"
    rw [e1]
    refine ⟨_, rfl, _, rfl, S00.asc_txt _ _, by rw [← e1]; omega, S00.rf_far (by decide) (.inl (by rw [na]; omega)), fun H1 s1 => ?_⟩
    rw [← e1]
    try dsimp only [List.set]
    walk_at "zz"
    rw [e2]
    refine ⟨_, rfl, _, rfl, S00.asc_txt _ _, by rw [← e2]; simp only [List.length_append, List.length_cons, List.length_nil]; omega, S00.rf_far (by decide) (.inl (by rw [nb]; omega)), fun H2 s2 => ?_⟩
    try dsimp only [List.set]
    walk_at "zz"
    rw [e3]
    exact ⟨_, rfl, _, rfl, S00.asc_txt _ _, by rw [← e3]; simp only [List.length_append, List.length_cons, List.length_nil]; omega, S00.rf_far P0 (.inr (by rw [na]; omega)), fun H3 s3 => q _ ((s1.trans s2).trans s3)⟩
  · have r1 := S00.rf_txt (p := (((10 : Nat) ^ k : Nat) : Int)) (q := 1) (by decide) (g_1 _) (by rw [na]; omega) (by omega)
    have r2 := S00.rf_txt (p := -(((10 : Nat) ^ k : Nat) : Int)) (q := 1) (by decide) (g_1 _) (by rw [nb]; omega) (by omega)
    have r3 := S00.rf_txt (p := 1) (q := (((10 : Nat) ^ k : Nat) : Int)) P0 (g_2 _) (by omega) (by rw [na]; omega)
    have b1 : Bits 8999 (1 : Int) := bits_up (bits_of (by decide) (by decide)) (by decide)
    try dsimp only [List.set]
    walk_at "zz"
    rw [e1]
    refine ⟨_, rfl, _, rfl, S00.asc_txt _ _, by rw [← e1]; (try simp only [List.length_append, List.length_cons, List.length_nil]); omega, (fun hn => by rw [r1] at hn; cases hn), fun t2 d2 h2 => ?_⟩
    rw [r1] at h2
    cases h2
    refine ⟨by omega, b1, fun c1 H1 s1 h1 => ?_⟩
    obtain ⟨erc1, ebc1⟩ := rt_low (n := (((10 : Nat) ^ k : Nat) : Int)) (d := 1) (by omega) (g_1 _)
    rw [erc1, ebc1] at h1
    try dsimp only [List.set]
    walk_at "zz"
    refine ⟨_, _, rfl, c1, _, _, _, rfl, rfl, IsR.mono (by walk_at "sm") h1, by walk_at "up", ?_⟩
    rw [← e1]
    try dsimp only [List.set]
    walk_at "zz"
    rw [e3]
    refine ⟨_, rfl, _, rfl, S00.asc_txt _ _, by rw [← e3]; (try simp only [List.length_append, List.length_cons, List.length_nil]); omega, (fun hn => by rw [r3] at hn; cases hn), fun t2 d2 h2 => ?_⟩
    rw [r3] at h2
    cases h2
    refine ⟨by omega, bt, fun c2 H2 s2 h2 => ?_⟩
    obtain ⟨erc2, ebc2⟩ := rt_low (n := 1) (d := (((10 : Nat) ^ k : Nat) : Int)) (by omega) (g_2 _)
    rw [erc2, ebc2] at h2
    try dsimp only [List.set]
    walk_at "zz"
    refine ⟨_, _, rfl, c2, _, _, _, rfl, rfl, IsR.mono (by walk_at "sm") h2, by walk_at "up", ?_⟩
    try dsimp only [List.set]
    walk_at "zz"
    rw [e2]
    refine ⟨_, rfl, _, rfl, S00.asc_txt _ _, by rw [← e2]; (try simp only [List.length_append, List.length_cons, List.length_nil]); omega, (fun hn => by rw [r2] at hn; cases hn), fun t2 d2 h2 => ?_⟩
    rw [r2] at h2
    cases h2
    refine ⟨by omega, b1, fun c3 H3 s3 h3 => ?_⟩
    obtain ⟨erc3, ebc3⟩ := rt_low (n := -(((10 : Nat) ^ k : Nat) : Int)) (d := 1) (by omega) (g_1 _)
    rw [erc3, ebc3] at h3
    try dsimp only [List.set]
    walk_at "zz"
    exact ⟨_, _, rfl, c3, _, _, _, rfl, rfl, IsR.mono (by walk_at "sm") h3, by walk_at "up", q _ (by walk_at "sm")⟩
theorem c_law_long (L : Lw K mg) : Cal P w K mg base 5 "_law_long" (sp1 fs_long) [] := by
  obtain ⟨fd, F⟩ := L.d_law_long
  exact ⟨⟨_, fd, ["count"], [], ok_law_long L F, L.g_law_long, F.kp, F.bindsN (fun _ _ _ _ _ _ us hl => match us, hl with | [_], _ => rfl), .nil⟩⟩
theorem ok_law_wrong (L : Lw K mg) {fd : FuncData} (F : FunD K "_law_wrong" "_law_wrong" (defArgs s_law_wrong) (defBody s_law_wrong) (defScope s_law_wrong) (df_law_wrong.dvs K) (df_law_wrong.kws K) (He.fAd K ("_law_wrong", none)) fd) : FnOk P w K mg base (L2N.CX P w) 2 (He.fAd K ("_law_wrong", none)) fd (["one"] : List Str) (sp1 fs_wrong) := by
  refine FunD.ok F sc_law_wrong len1 (fun cdv A outer s H vs Q E hr h => ?_)
  obtain ⟨x, rfl, h⟩ := h
  refine ⟨_, (pss_cons (ps_set (i := 1) sc_law_wrong.nd rfl (by first | exact Or.inl rfl | exact Or.inr rfl) (pe_c (c_law_text (K := K) L) hr (by decide) (L2N.takes_of rfl rfl rfl rfl) (pa_cons (pv 0) pa_nil)))
    (pss_cons (ps_set (i := 2) sc_law_wrong.nd rfl (by first | exact Or.inl rfl | exact Or.inr rfl) (pe_callTy (call_strB (K := K) rfl rfl L.dig) (by rfl) L.f_str (by decide +kernel) (pa_cons (pe_ix (ix_seqK (K := K) rfl) (pv 0) pe_int (fun _ _ => rfl)) pa_nil)))
    (pss_cons (ps_set (i := 3) sc_law_wrong.nd rfl (by first | exact Or.inl rfl | exact Or.inr rfl) (pe_callTy (call_strB (K := K) rfl rfl L.dig) (by rfl) L.f_str (by decide +kernel) (pa_cons (pe_ix (ix_seqK (K := K) rfl) (pv 0) pe_int (fun _ _ => rfl)) pa_nil)))
    (pss_cons (ps_set (i := 4) sc_law_wrong.nd rfl (by first | exact Or.inl rfl | exact Or.inr rfl) (pe_lst (pa_cons pe_str (pa_cons pe_str (pa_cons pe_str (pa_cons pe_str (pa_cons pe_str (pa_cons (pe_op o_cat3 pe_str (pv 1)) (pa_cons (pe_op o_cat3 pe_str (pv 1)) (pa_cons (pe_op o_cat3 pe_str (pv 1)) pa_nil))))))))))
    (pss_cons (ps_set (i := 4) sc_law_wrong.nd rfl (by first | exact Or.inl rfl | exact Or.inr rfl) (pe_op o_cat3 (pv 4) (pe_lst (pa_cons (pe_op o_cat3 (pv 1) pe_str) (pa_cons (pe_op o_cat3 (pv 1) pe_str) (pa_cons (pe_op o_cat3 pe_str (pv 1)) (pa_cons (pe_op o_cat3 (pv 1) pe_str) (pa_cons (pe_op o_cat3 (pv 1) pe_str) pa_nil))))))))
    (pss_cons (ps_set (i := 4) sc_law_wrong.nd rfl (by first | exact Or.inl rfl | exact Or.inr rfl) (pe_op o_cat3 (pv 4) (pe_lst (pa_cons (pe_op o_cat3 (pv 1) pe_str) (pa_cons (pe_op o_cat3 pe_str (pv 1)) (pa_cons (pe_op o_cat3 (pv 1) pe_str) (pa_cons (pe_op o_cat3 (pv 1) pe_str) (pa_cons (pe_op o_cat3 (pv 2) pe_str) pa_nil))))))))
    (pss_cons (ps_set (i := 4) sc_law_wrong.nd rfl (by first | exact Or.inl rfl | exact Or.inr rfl) (pe_op o_cat3 (pv 4) (pe_lst (pa_cons (pe_op o_cat3 (pe_op o_cat3 (pv 2) pe_str) (pv 3)) (pa_cons (pe_op o_cat3 (pe_op o_cat3 (pv 2) pe_str) (pv 3)) (pa_cons (pe_op o_cat3 (pe_op o_cat3 (pv 2) pe_str) (pv 3)) pa_nil))))))
    (pss_cons (ps_set (i := 4) sc_law_wrong.nd rfl (by first | exact Or.inl rfl | exact Or.inr rfl) (pe_op o_cat3 (pv 4) (pe_lst (pa_cons (pe_op o_cat3 (pe_op o_cat3 (pv 2) pe_str) (pv 3)) (pa_cons (pe_op o_cat3 (pe_op o_cat3 (pe_callTy (call_strB (K := K) rfl rfl L.dig) (by rfl) L.f_str (by decide +kernel) (pa_cons (pe_un o_neg (pe_ix (ix_seqK (K := K) rfl) (pv 0) pe_int (fun _ _ => rfl))) pa_nil)) pe_str) (pv 3)) pa_nil)))))
    (pss_one (ps_ret (pe_op o_cat3 (pv 4) (pe_lst (pa_cons (pe_op o_cat3 (pe_op o_cat3 (pe_callTy (call_strB (K := K) rfl rfl L.dig) (by rfl) L.f_str (by decide +kernel) (pa_cons (pe_op o_rep2 pe_int (pe_ix (ix_seqK (K := K) rfl) (pv 0) pe_int (fun _ _ => rfl))) pa_nil)) pe_str) (pe_callTy (call_strB (K := K) rfl rfl L.dig) (by rfl) L.f_str (by decide +kernel) (pa_cons (pe_op o_rep2 pe_int (pe_ix (ix_seqK (K := K) rfl) (pv 0) pe_int (fun _ _ => rfl))) pa_nil))) pa_nil))))))))))))), ?_⟩
  rw [show L2.start (["one", "t", "top", "u", "odd"] : List Str) [x] = [some x, none, none, none, none] from rfl]
  obtain ⟨t, p, q, rfl, ht, hx, k⟩ := h
  have tp := hx.tp
  have ln := hx.ln2
  have lt := txt_len hx.ln.1 hx.ln.2
  have d1 := Nat.lt_trans (dbl hx.bp) t701
  have d2 := Nat.lt_trans (dbl hx.bq) t701
  try dsimp only [List.set]
  walk_at "zz"
  refine ⟨_, rfl, t, p, q, rfl, ht, tp.1, tp.2, by omega, by omega, ?_⟩
  try dsimp only [List.set]
  walk_at "zz"
  refine z_strB tp.1 ?_
  try dsimp only [List.set]
  walk_at "zz"
  refine z_strB tp.2 ?_
  try dsimp only [List.set]
  walk_at "zz"
  refine z_strB (by rw [Int.natAbs_neg]; exact tp.1) ?_
  try dsimp only [List.set]
  walk_at "zz"
  refine z_strB d1 ?_
  try dsimp only [List.set]
  walk_at "zz"
  refine z_strB d2 ?_
  try dsimp only [List.set]
  walk_at "zz"
  exact k _ _ (by walk_at "sm") (by assumption)
theorem c_law_wrong (L : Lw K mg) : Cal P w K mg base 2 "_law_wrong" (sp1 fs_wrong) [] := by
  obtain ⟨fd, F⟩ := L.d_law_wrong
  exact ⟨⟨_, fd, ["one"], [], ok_law_wrong L F, L.g_law_wrong, F.kp, F.bindsN (fun _ _ _ _ _ _ us hl => match us, hl with | [_], _ => rfl), .nil⟩⟩
end
end T
set_option maxHeartbeats 4000000
namespace T
open PySem PySem.Spec PyProof.Rows L2 Z
theorem z_own2R {u : R2} {sp : Sp} {K : Frag} {H : Hp} {Q : VK} {E : XK} {a b : Addr} {p q r s : Int} (h1 : IsR K H a p q) (h2 : IsR K H b r s) (k : sp [.ref a, .ref b] H (fun v H' => (∃ q, v = .ref q) ∧ Q v H') E) : rOr u (rOwn2 (He.ga K "Ratio") sp E) (.ref a) (.ref b) H Q := by
  obtain ⟨d1, e1⟩ := h1
  obtain ⟨d2, e2⟩ := h2
  exact .inr ⟨a, b, _, _, _, _, rfl, rfl, e1, e2, k⟩
theorem z_orI {u : R2} {C : Addr} {sp : Sp} {H : Hp} {Q : VK} {E : XK} {i j : Int} (k : u (.int i) (.int j) H Q) : rOr u (rOwn2 C sp E) (.int i) (.int j) H Q := .inl k
theorem z_eqR {sp : Sp} {K : Frag} {H : Hp} {Q : VK} {E : XK} {a b : Addr} {p q r s : Int} (h1 : IsR K H a p q) (h2 : IsR K H b r s) (k : sp [.ref a, .ref b] H (fun v H' => (∃ q, v = .bl q) ∧ Q v H') E) : rOwnB (He.ga K "Ratio") sp E (.ref a) (.ref b) H Q := by
  obtain ⟨d1, e1⟩ := h1
  obtain ⟨d2, e2⟩ := h2
  exact z_ownB e1 e2 k
theorem z_eqOR {sp : Sp} {K : Frag} {H : Hp} {Q : VK} {E : XK} {u : R2} {a b : Addr} {p q r s : Int} (h1 : IsR K H a p q) (h2 : IsR K H b r s) (k : sp [.ref a, .ref b] H (fun v H' => (∃ q, v = .bl q) ∧ Q v H') E) : rOr u (rOwnB (He.ga K "Ratio") sp E) (.ref a) (.ref b) H Q := .inr (z_eqR h1 h2 k)
theorem z_eqOI {sp : Sp} {C : Addr} {H : Hp} {Q : VK} {E : XK} {u : R2} {i j : Int} (k : u (.int i) (.int j) H Q) : rOr u (rOwnB C sp E) (.int i) (.int j) H Q := .inl k
theorem z_isX0 {K : Frag} {H : Hp} {Q : VK} {a D C : Addr} {b : Bool} (hk : PySem.W.kitOne K (.ref D) (.ref C) = some b) (q : Q (.bl b) H) :
    (.ref D : Value) = .ref D ∧ (∀ dd, (none : Option Addr) = some dd → ∃ fs, H dd = some (.xd fs)) ∧ rIsX K D a [.ref a, .ref C] H Q := ⟨rfl, (fun dd e => by cases e), _, _, b, rfl, .own C, hk, q⟩
theorem z_isX0T {K : Frag} {H : Hp} {Q : VK} {a D : Addr} {n : String} {b : Bool} (hk : PySem.W.kitOne K (.ref D) (.type n) = some b) (q : Q (.bl b) H) :
    (.ref D : Value) = .ref D ∧ (∀ dd, (none : Option Addr) = some dd → ∃ fs, H dd = some (.xd fs)) ∧ rIsX K D a [.ref a, .ty n] H Q := ⟨rfl, (fun dd e => by cases e), _, _, b, rfl, .ty n, hk, q⟩
theorem z_a3J {C : Addr} {sp : Sp} {E : XK} {H : Hp} {Q : VK} {i : Int} (q : rAbs1 [.int i] H Q) : rAbs3 C sp E [.int i] H Q := .inl q
theorem z_absR {sp : Sp} {K : Frag} {H : Hp} {Q : VK} {E : XK} {a : Addr} {p q : Int} (h : IsR K H a p q) (k : sp [.ref a] H Q E) : rAbs3 (He.ga K "Ratio") sp E [.ref a] H Q := by
  obtain ⟨dx, hx⟩ := h
  exact z_a3O ⟨a, dx, _, rfl, hx, k⟩
theorem bit1 {x : Int} (h : Bits 1100 x) : Bits 1101 (x + 1) ∧ Bits 1101 (x - 1) := by
  have e : (2 : Nat) ^ 1101 = 2 * 2 ^ 1100 := by decide +kernel
  unfold Bits at *
  rw [e]
  generalize (2 : Nat) ^ 1100 = T at *
  omega
theorem due_cmp {x y : Int} : (if decide (y < x) = true then (1 : Int) else 0) - (if decide (x < y) = true then (1 : Int) else 0) = cmpI x y ∧ -((if decide (y < x) = true then (1 : Int) else 0) - (if decide (x < y) = true then (1 : Int) else 0)) = cmpI y x := by
  unfold cmpI
  by_cases h1 : y < x
  · have h2 : ¬ x < y := by omega
    simp [h1, h2]
  · by_cases h2 : x < y
    · simp [h1, h2]
    · simp [h1, h2]
theorem same_lo {p q r s : Int} (h1 : Lo p q) (h2 : Lo r s) : (decide (p = r) && decide (q = s)) = decide (p * s = r * q) ∧ (decide (r = p) && decide (s = q)) = decide (p * s = r * q) := by
  have key : (p = r ∧ q = s) ↔ p * s = r * q := ⟨fun h => by rw [h.1, h.2], fun h => low_uniq h1.pos h2.pos h1.g h2.g h⟩
  constructor
  · rw [← Bool.decide_and]
    exact decide_eq_decide.mpr key
  · rw [← Bool.decide_and]
    exact decide_eq_decide.mpr (Iff.trans ⟨fun h => ⟨h.1.symm, h.2.symm⟩, fun h => ⟨h.1.symm, h.2.symm⟩⟩ key)
theorem two1100 : (2 : Nat) ^ 1100 ≤ 10 ^ 700 ∧ (2 : Nat) ^ 2200 ≤ 10 ^ 700 := by decide +kernel
theorem Lo.lx {p q : Int} (h : Lo p q) : Lx p q := ⟨h.pos, h.g, Nat.lt_of_lt_of_le h.bp two1100.1, Nat.lt_of_lt_of_le h.bq two1100.1⟩
theorem lo_mul {p q r s : Int} (h1 : Lo p q) (h2 : Lo r s) : Lx (rt (p * r) (q * s)) (rb (p * r) (q * s)) := by
  have ne : q * s ≠ 0 := Int.mul_ne_zero (by have := h1.pos; omega) (by have := h2.pos; omega)
  obtain ⟨a, b, _⟩ := rt_specN (n := p * r) ne
  obtain ⟨c, d⟩ := rt_bits (n := p * r) ne (h1.bp.mul h2.bp) (h1.bq.mul h2.bq)
  exact ⟨a, b, Nat.lt_of_lt_of_le c two1100.2, Nat.lt_of_lt_of_le d two1100.2⟩
/-- a Ratio and its told pair -/
def Pr (K : Frag) (H : Hp) (a t : Addr) (p q : Int) : Prop := IsR K H a p q ∧ H t = some (.tup [.int p, .int q]) ∧ Lo p q
theorem Pr.mono {K : Frag} {H H' : Hp} {a t : Addr} {p q : Int} (s : Same H H') (h : Pr K H a t p q) : Pr K H' a t p q := ⟨h.1.mono s, s _ _ h.2.1, h.2.2⟩
def fs_sums (K : Frag) : F4 := fun x y z u H Q _ => ∃ (a b t v : Addr) (p q r s : Int), x = .ref a ∧ y = .ref b ∧ z = .ref t ∧ u = .ref v ∧ Pr K H a t p q ∧ Pr K H b v r s ∧ ∀ H', Same H H' → Q (.bl true) H'
def fs_quo (K : Frag) : F4 := fun x y z u H Q _ => ∃ (a b t v : Addr) (p q r s : Int), x = .ref a ∧ y = .ref b ∧ z = .ref t ∧ u = .ref v ∧ Pr K H a t p q ∧ Pr K H b v r s ∧ ∀ H', Same H H' → Q (.bl true) H'
def fs_nob : F1 := fun x H Q _ => ∃ i : Int, x = .int i ∧ ∀ H', Same H H' → Q (.bl true) H'
def fs_one (K : Frag) : F2 := fun x y H Q _ => ∃ (a t : Addr) (p q : Int), x = .ref a ∧ y = .ref t ∧ Pr K H a t p q ∧ ∀ H', Same H H' → Q (.bl true) H'
def fs_pows (K : Frag) : F3 := fun x y z H Q _ => ∃ (a t l : Addr) (p q : Int) (ns : List Int), x = .ref a ∧ y = .ref t ∧ z = .ref l ∧ Pr K H a t p q ∧ H l = some (.lst (ns.map V.int)) ∧ ns.length ≤ 100 ∧ (∀ n, n ∈ ns → 0 ≤ n ∧ n ≤ 64) ∧ ∀ H', Same H H' → Q (.bl true) H'
def fs_nop (K : Frag) : F2 := fun x y H Q _ => ∃ (a : Addr) (p q n : Int), x = .ref a ∧ y = .int n ∧ IsR K H a p q ∧ Lo p q ∧ ¬ (0 ≤ n ∧ n ≤ 64) ∧ ∀ H', Same H H' → Q (.bl true) H'
local macro_rules | `(tactic| walk_at "up") => `(tactic| first
  | assumption
  | (refine' IsR.mono (by assumption) ?zup; case zup => walk_at "up")
  | (refine' IsE.mono (by assumption) ?zup; case zup => walk_at "up")
  | (refine' Same.at (by assumption) ?zup; case zup => walk_at "up")
  | (refine' SqL.of ?zup; case zup => walk_at "up")
  | (refine' L2.Same.seq (by assumption) ?zup; case zup => walk_at "up"))
local macro_rules | `(tactic| walk_at "z") => `(tactic| first
  | ((with_reducible refine' z_var ?zvh ?_); (case zvh => exact rfl))
  | with_reducible refine z_c ?_
  | with_reducible refine z_cons ?_
  | with_reducible refine z_nil ?_
  | with_reducible refine z_op ?_
  | with_reducible refine z_nx ?_
  | with_reducible refine z_seq ?_
  | with_reducible refine z_asg ?_
  | with_reducible refine z_asgG ?_
  | with_reducible refine z_call ?_
  | with_reducible refine z_sq0 ?_
  | with_reducible refine z_sq1 ?_
  | with_reducible refine z_ifS ?_
  | with_reducible refine z_test ?_
  | with_reducible refine z_tb ?_
  | with_reducible refine z_bl ?_
  | with_reducible refine z_blI ?_
  | with_reducible refine z_ret ?_
  | with_reducible refine z_rt ?_
  | with_reducible refine z_T ?_
  | with_reducible refine z_F ?_
  | with_reducible refine z_add ?_
  | with_reducible refine z_sub ?_
  | with_reducible refine z_neg ?_
  | with_reducible refine z_un ?_
  | with_reducible refine z_eqI ?_
  | with_reducible refine z_neI ?_
  | with_reducible refine z_lt ?_
  | with_reducible refine z_le ?_
  | with_reducible refine z_gt ?_
  | with_reducible refine z_ge ?_
  | with_reducible refine z_not ?_
  | with_reducible refine z_and ?_
  | with_reducible refine z_or ?_
  | with_reducible refine z_andV ?_
  | with_reducible refine z_orV ?_
  | with_reducible refine z_notV ?_
  | with_reducible refine z_if ?_
  | with_reducible refine z_cb ?_
  | with_reducible refine z_int1 ?_
  | with_reducible refine z_intb ?_
  | with_reducible refine z_abs ?_
  | with_reducible refine z_gcd ?_
  | with_reducible refine z_isi_ii ?_
  | with_reducible refine z_isi_ib ?_
  | with_reducible refine z_next ?_
  | with_reducible refine z_drop ?_
  | with_reducible refine z_par ?_
  | with_reducible refine z_par2 ?_
  | with_reducible refine z_tupN ?_
  | with_reducible refine z_lstN ?_
  | ((with_reducible refine' z_nt ?zl1 ?_); (case zl1 => exact Nat.le_of_ble_eq_true rfl); intro p H' hp hs he)
  | ((with_reducible refine' z_gtup ?zl1 ?zl2 ?_); (case zl1 => walk_at "up"); (case zl2 => exact rfl))
  | with_reducible refine z_bk ?_
  | with_reducible refine z_ct ?_
  | with_reducible refine z_break ?_
  | with_reducible refine z_cont ?_
  | with_reducible refine z_retN ?_
  | with_reducible refine z_nn ?_
  | with_reducible refine z_mk ?_
  | with_reducible refine z_gn ?_
  | with_reducible refine z_gcons ?_
  | with_reducible refine z_gnil ?_
  | with_reducible refine z_mt ?_
  | with_reducible refine z_mko ?_
  | with_reducible refine z_for2 ?_
  | with_reducible refine z_ownI ?_
  | ((with_reducible refine' z_lenL ?zl1 ?_); (case zl1 => walk_at "up"))
  | ((with_reducible refine' z_ixT ?zl1 ?zl2 ?_); (case zl1 => walk_at "up"); (case zl2 => exact rfl))
  | ((with_reducible refine' z_mulL ?zl1 ?zl2 ?_); (case zl1 => omega); (case zl2 => omega))
  | ((with_reducible refine' z_mulR ?zl1 ?zl2 ?_); (case zl1 => omega); (case zl2 => omega))
  | ((with_reducible refine' z_divS ?zl1 ?zl2 ?_); (case zl1 => omega); (case zl2 => omega))
  | ((with_reducible refine' z_mulW ?zl1 ?zl2 ?zl3 ?zl4 ?_); (case zl1 => omega); (case zl2 => omega); (case zl3 => omega); (case zl4 => omega))
  | ((with_reducible refine' z_divW ?zl1 ?zl2 ?_); (case zl1 => omega); (case zl2 => omega)))
local macro_rules | `(tactic| walk_at "zz") => `(tactic| repeat (walk_at "z"))
local macro_rules | `(tactic| walk_at "z") => `(tactic| with_reducible refine z_lstN ?_)
local macro_rules | `(tactic| walk_at "z") => `(tactic| with_reducible refine z_p6 ?_)
local macro_rules | `(tactic| walk_at "z") => `(tactic| with_reducible refine z_p12 ?_)
local macro_rules | `(tactic| walk_at "z") => `(tactic| with_reducible refine z_p13 ?_)
local macro_rules | `(tactic| walk_at "z") => `(tactic| with_reducible refine z_calln ?_)
local macro_rules | `(tactic| walk_at "z") => `(tactic| with_reducible refine z_xfS ?_)
local macro_rules | `(tactic| walk_at "z") => `(tactic| with_reducible refine z_lcS ?_)
local macro_rules | `(tactic| walk_at "z") => `(tactic| with_reducible refine z_lcRS ?_)
local macro_rules | `(tactic| walk_at "z") => `(tactic| with_reducible refine z_lcZS ?_)
local macro_rules | `(tactic| walk_at "z") => `(tactic| with_reducible refine z_foS ?_)
local macro_rules | `(tactic| walk_at "z") => `(tactic| with_reducible refine z_for1 ?_)
local macro_rules | `(tactic| walk_at "z") => `(tactic| with_reducible refine z_tsl ?_)
local macro_rules | `(tactic| walk_at "z") => `(tactic| with_reducible refine z_np ?_)
local macro_rules | `(tactic| walk_at "z") => `(tactic| with_reducible refine z_pt ?_)
local macro_rules | `(tactic| walk_at "z") => `(tactic| with_reducible refine z_pti ?_)
local macro_rules | `(tactic| walk_at "z") => `(tactic| with_reducible refine z_catI ?_)
local macro_rules | `(tactic| walk_at "z") => `(tactic| with_reducible refine z_isNI ?_)
local macro_rules | `(tactic| walk_at "z") => `(tactic| with_reducible refine z_isNN ?_)
local macro_rules | `(tactic| walk_at "z") => `(tactic| with_reducible refine z_notNI ?_)
local macro_rules | `(tactic| walk_at "z") => `(tactic| with_reducible refine z_notNN ?_)
local macro_rules | `(tactic| walk_at "z") => `(tactic| with_reducible refine z_gsub ?_)
local macro_rules | `(tactic| walk_at "z") => `(tactic| with_reducible refine z_isNb ?_)
local macro_rules | `(tactic| walk_at "z") => `(tactic| with_reducible refine z_notNb ?_)
local macro_rules | `(tactic| walk_at "z") => `(tactic| ((with_reducible refine' z_nlR ?zl1 ?_); (case zl1 => exact Nat.le_of_ble_eq_true rfl); intro p H' hp hs he))
local macro_rules | `(tactic| walk_at "z") => `(tactic| ((with_reducible refine' z_repR ?zl1 ?zl2 ?_); (case zl1 => omega); (case zl2 => omega)))
local macro_rules | `(tactic| walk_at "z") => `(tactic| ((with_reducible refine' z_repL ?zl1 ?zl2 ?_); (case zl1 => omega); (case zl2 => omega)))
local macro_rules | `(tactic| walk_at "z") => `(tactic| ((with_reducible refine' z_lenLst ?zl1 ?_); (case zl1 => walk_at "up")))
local macro_rules | `(tactic| walk_at "z") => `(tactic| ((with_reducible refine' z_cat ?zl1 ?zl2 ?zl3 ?_); (case zl1 => walk_at "up"); (case zl2 => walk_at "up"); (case zl3 => (simp only [List.length_map, List.length_cons, List.length_nil, List.length_append, List.length_replicate]; omega)); intro p H' hp hs he))
local macro_rules | `(tactic| walk_at "z") => `(tactic| with_reducible refine z_sfl ?_)
local macro_rules | `(tactic| walk_at "z") => `(tactic| with_reducible refine z_lcES ?_)
local macro_rules | `(tactic| walk_at "z") => `(tactic| with_reducible refine z_lcMS ?_)
local macro_rules | `(tactic| walk_at "z") => `(tactic| with_reducible refine z_foES ?_)
local macro_rules | `(tactic| walk_at "z") => `(tactic| with_reducible refine z_fo3S ?_)
local macro_rules | `(tactic| walk_at "z") => `(tactic| with_reducible refine z_sta ?_)
local macro_rules | `(tactic| walk_at "z") => `(tactic| with_reducible refine z_sta1 ?_)
local macro_rules | `(tactic| walk_at "z") => `(tactic| ((with_reducible refine' z_fldt ?zc1 ?zc2 ?zl1 ?zl2 ?_); (case zc1 => exact Lw.cl_Ratio (by assumption)); (case zc2 => exact Lw.na_Ratio_top (by assumption)); (case zl1 => exact rfl); (case zl2 => walk_at "up")))
local macro_rules | `(tactic| walk_at "z") => `(tactic| ((with_reducible refine' z_fldb ?zc1 ?zc2 ?zl1 ?zl2 ?_); (case zc1 => exact Lw.cl_Ratio (by assumption)); (case zc2 => exact Lw.na_Ratio_bottom (by assumption)); (case zl1 => exact rfl); (case zl2 => walk_at "up")))
local macro_rules | `(tactic| walk_at "z") => `(tactic| with_reducible refine z_c3I ?_)
local macro_rules | `(tactic| walk_at "z") => `(tactic| with_reducible refine z_r2I ?_)
local macro_rules | `(tactic| walk_at "z") => `(tactic| with_reducible refine z_for3 ?_)
local macro_rules | `(tactic| walk_at "z") => `(tactic| with_reducible refine z_tbits ?_)
local macro_rules | `(tactic| walk_at "z") => `(tactic| with_reducible refine z_tbi ?_)
local macro_rules | `(tactic| walk_at "z") => `(tactic| ((with_reducible refine' u_mod ?zl1 ?_); (case zl1 => omega)))
local macro_rules | `(tactic| walk_at "z") => `(tactic| with_reducible refine u_who ?_)
local macro_rules | `(tactic| walk_at "z") => `(tactic| with_reducible refine z_asg2 ?_)
local macro_rules | `(tactic| walk_at "z") => `(tactic| with_reducible refine z_c3S (by simp only [List.length_append, List.length_cons, List.length_nil]; omega) ?_)
local macro_rules | `(tactic| walk_at "z") => `(tactic| with_reducible refine z_tm0 ?_)
local macro_rules | `(tactic| walk_at "z") => `(tactic| with_reducible refine z_tm1 ?_)
local macro_rules | `(tactic| walk_at "z") => `(tactic| with_reducible refine z_isS ?_)
local macro_rules | `(tactic| walk_at "z") => `(tactic| with_reducible refine z_eqS ?_)
local macro_rules | `(tactic| walk_at "z") => `(tactic| with_reducible refine z_neS ?_)
local macro_rules | `(tactic| walk_at "z") => `(tactic| with_reducible refine z_isN ?_)
local macro_rules | `(tactic| walk_at "z") => `(tactic| with_reducible refine z_jsN ?_)
local macro_rules | `(tactic| walk_at "z") => `(tactic| with_reducible refine z_jsC ?_)
local macro_rules | `(tactic| walk_at "z") => `(tactic| with_reducible refine z_fmB ?_)
local macro_rules | `(tactic| walk_at "z") => `(tactic| ((with_reducible refine' z_cLit ?zl1 ?_); (case zl1 => first | with_reducible exact lt_0 | with_reducible exact lt_1 | with_reducible exact lt_2 | with_reducible exact lt_3 | with_reducible exact lt_4 | with_reducible exact lt_5 | with_reducible exact lt_6 | with_reducible exact lt_7 | with_reducible exact lt_8 | with_reducible exact lt_9 | with_reducible exact lt_10 | with_reducible exact lt_11 | with_reducible exact lt_12 | with_reducible exact lt_13 | with_reducible exact lt_14 | with_reducible exact lt_15 | with_reducible exact lt_16 | with_reducible exact lt_17 | with_reducible exact lt_18 | with_reducible exact lt_19 | with_reducible exact lt_20 | with_reducible exact lt_21)))
local macro_rules | `(tactic| walk_at "z") => `(tactic| with_reducible refine z_js0 ?_)
local macro_rules | `(tactic| walk_at "z") => `(tactic| ((with_reducible refine' z_mtR ?zl1 ?_); (case zl1 => walk_at "up")))
local macro_rules | `(tactic| walk_at "z") => `(tactic| ((with_reducible refine' z_c3L ?zl1 ?zl2 ?zl3 ?_); (case zl1 => walk_at "up"); (case zl2 => walk_at "up"); (case zl3 => (simp only [List.length_append, List.length_cons, List.length_nil]; decide)); intro p H' hp hs he))
local macro_rules | `(tactic| walk_at "z") => `(tactic| with_reducible refine z_orI ?_)
local macro_rules | `(tactic| walk_at "z") => `(tactic| with_reducible refine z_eqOI ?_)
local macro_rules | `(tactic| walk_at "z") => `(tactic| with_reducible refine z_a3J ?_)
theorem same00g {H H1 H2 : Hp} (h : Same H1 H2) (e : Same H H1) : Same H H2 := e.trans h
local macro_rules | `(tactic| walk_at "sm") => `(tactic| first
  | assumption
  | exact fun _ _ h => h
  | (refine' same00g (by assumption) ?zsm; case zsm => walk_at "sm"))
local macro_rules | `(tactic| walk_at "up") => `(tactic| first
  | assumption
  | (with_reducible refine' IsR.mono (by assumption) ?zup; case zup => walk_at "up")
  | (with_reducible refine' Same.at (by assumption) ?zup; case zup => walk_at "up")
  | (with_reducible refine' IsPool.mono (by assumption) ?zup; case zup => walk_at "up")
  | (with_reducible refine' Pr.mono (by assumption) ?zup; case zup => walk_at "up")
  | fail)
section
variable {P : Program} {w : World} {K : Frag} {mg : Str → Option Value} {base : Heap}
theorem ok_law_sums (L : Lw K mg) {fd : FuncData} (F : FunD K "_law_sums" "_law_sums" (defArgs s_law_sums) (defBody s_law_sums) (defScope s_law_sums) (df_law_sums.dvs K) (df_law_sums.kws K) (He.fAd K ("_law_sums", none)) fd) : FnOk P w K mg base (L2N.CX P w) 4 (He.fAd K ("_law_sums", none)) fd (["a", "b", "one", "two"] : List Str) (sp4 (fs_sums K)) := by
  refine FunD.ok F sc_law_sums len4 (fun cdv A outer s H vs Q E hr h => ?_)
  obtain ⟨x, y, z, u, rfl, h⟩ := h
  refine ⟨_, (pss_cons (ps_set (i := 4) sc_law_sums.nd rfl (by first | exact Or.inl rfl | exact Or.inr rfl) (pe_op (op_or2 o_rep2 (op_own (by rfl) L.sf_Ratio (c_RatioD_mulD (K := K) L) hr (by decide) passF)) (pe_ix (ix_seqK (K := K) rfl) (pv 2) pe_int (fun _ _ => rfl)) (pe_ix (ix_seqK (K := K) rfl) (pv 3) pe_int (fun _ _ => rfl))))
    (pss_cons (ps_set (i := 5) sc_law_sums.nd rfl (by first | exact Or.inl rfl | exact Or.inr rfl) (pe_op (op_or2 o_rep2 (op_own (by rfl) L.sf_Ratio (c_RatioD_mulD (K := K) L) hr (by decide) passF)) (pe_ix (ix_seqK (K := K) rfl) (pv 3) pe_int (fun _ _ => rfl)) (pe_ix (ix_seqK (K := K) rfl) (pv 2) pe_int (fun _ _ => rfl))))
    (pss_cons (ps_set (i := 6) sc_law_sums.nd rfl (by first | exact Or.inl rfl | exact Or.inr rfl) (pe_op (op_or2 o_rep2 (op_own (by rfl) L.sf_Ratio (c_RatioD_mulD (K := K) L) hr (by decide) passF)) (pe_ix (ix_seqK (K := K) rfl) (pv 2) pe_int (fun _ _ => rfl)) (pe_ix (ix_seqK (K := K) rfl) (pv 3) pe_int (fun _ _ => rfl))))
    (pss_cons (ps_if (pt_not (pt_val (pe_c (c_law_is (K := K) L) hr (by decide) (L2N.takes_of rfl rfl rfl rfl) (pa_cons (pe_op (op_or2 o_cat3 (op_own (by rfl) L.sf_Ratio (c_RatioD_addD (K := K) L) hr (by decide) passF)) (pv 0) (pv 1)) (pa_cons (pe_c (c_law_low (K := K) L) hr (by decide) (L2N.takes_of rfl rfl rfl rfl) (pa_cons (pe_op (op_or2 o_cat3 (op_own (by rfl) L.sf_Ratio (c_RatioD_addD (K := K) L) hr (by decide) passF)) (pv 4) (pv 5)) (pa_cons (pv 6) pa_nil))) pa_nil))))) (pss_one (ps_ret pe_bl)) pss_nil)
    (pss_cons (ps_if (pt_not (pt_val (pe_c (c_law_is (K := K) L) hr (by decide) (L2N.takes_of rfl rfl rfl rfl) (pa_cons (pe_op (op_or2 o_sub (op_own (by rfl) L.sf_Ratio (c_RatioD_subD (K := K) L) hr (by decide) passF)) (pv 0) (pv 1)) (pa_cons (pe_c (c_law_low (K := K) L) hr (by decide) (L2N.takes_of rfl rfl rfl rfl) (pa_cons (pe_op (op_or2 o_sub (op_own (by rfl) L.sf_Ratio (c_RatioD_subD (K := K) L) hr (by decide) passF)) (pv 4) (pv 5)) (pa_cons (pv 6) pa_nil))) pa_nil))))) (pss_one (ps_ret pe_bl)) pss_nil)
    (pss_cons (ps_if (pt_not (pt_val (pe_c (c_law_is (K := K) L) hr (by decide) (L2N.takes_of rfl rfl rfl rfl) (pa_cons (pe_op (op_or2 o_rep2 (op_own (by rfl) L.sf_Ratio (c_RatioD_mulD (K := K) L) hr (by decide) passF)) (pv 0) (pv 1)) (pa_cons (pe_c (c_law_low (K := K) L) hr (by decide) (L2N.takes_of rfl rfl rfl rfl) (pa_cons (pe_op (op_or2 o_rep2 (op_own (by rfl) L.sf_Ratio (c_RatioD_mulD (K := K) L) hr (by decide) passF)) (pe_ix (ix_seqK (K := K) rfl) (pv 2) pe_int (fun _ _ => rfl)) (pe_ix (ix_seqK (K := K) rfl) (pv 3) pe_int (fun _ _ => rfl))) (pa_cons (pv 6) pa_nil))) pa_nil))))) (pss_one (ps_ret pe_bl)) pss_nil)
    (pss_cons (ps_set (i := 7) sc_law_sums.nd rfl (by first | exact Or.inl rfl | exact Or.inr rfl) (pe_op (op_or2 o_sub (op_own (by rfl) L.sf_Ratio (c_RatioD_subD (K := K) L) hr (by decide) passF)) (pe_callTy o_int1 (by rfl) L.f_int (by decide +kernel) (pa_cons (pe_cmpR o_gt (pv 4) (pv 5) (nomark _)) pa_nil)) (pe_callTy o_int1 (by rfl) L.f_int (by decide +kernel) (pa_cons (pe_cmpR o_lt (pv 4) (pv 5) (nomark _)) pa_nil))))
    (pss_cons (ps_if (PW.pt (pw_or (pt_not (pt_val (pe_c (c_law_whole (K := K) L) hr (by decide) (L2N.takes_of rfl rfl rfl rfl) (pa_cons (pe_mt (c_Ratio_compare (K := K) L) hr (by decide) (L2N.takes_of rfl rfl rfl rfl) (pv 0) (pa_cons (pv 1) pa_nil)) (pa_cons (pv 7) pa_nil))))) (pw_or1 (pt_not (pt_val (pe_c (c_law_whole (K := K) L) hr (by decide) (L2N.takes_of rfl rfl rfl rfl) (pa_cons (pe_mt (c_Ratio_compare (K := K) L) hr (by decide) (L2N.takes_of rfl rfl rfl rfl) (pv 1) (pa_cons (pv 0) pa_nil)) (pa_cons (pe_un o_neg (pv 7)) pa_nil)))))))) (pss_one (ps_ret pe_bl)) pss_nil)
    (pss_cons (ps_set (i := 8) sc_law_sums.nd rfl (by first | exact Or.inl rfl | exact Or.inr rfl) (pe_cmpR (op_or2 op_eq (op_ownEqB (c_RatioD_eqD (K := K) L) hr (by decide) passF)) (pv 4) (pv 5) (nomark _)))
    (pss_one (ps_ret (pe_and (pe_c (c_law_flag (K := K) L) hr (by decide) (L2N.takes_of rfl rfl rfl rfl) (pa_cons (pe_cmpR (op_or2 op_eq (op_ownEqB (c_RatioD_eqD (K := K) L) hr (by decide) passF)) (pv 0) (pv 1) (nomark _)) (pa_cons (pv 8) pa_nil))) (pe_one (pe_c (c_law_flag (K := K) L) hr (by decide) (L2N.takes_of rfl rfl rfl rfl) (pa_cons (pe_cmpR (op_or2 op_eq (op_ownEqB (c_RatioD_eqD (K := K) L) hr (by decide) passF)) (pv 1) (pv 0) (nomark _)) (pa_cons (pv 8) pa_nil)))))))))))))))), ?_⟩
  rw [show L2.start (["a", "b", "one", "two", "left", "right", "bottom", "due", "same"] : List Str) [x, y, z, u] = [some x, some y, some z, some u, none, none, none, none, none] from rfl]
  obtain ⟨a, b, t, v, p, q, r, s, rfl, rfl, rfl, rfl, ⟨h1, t1, l1⟩, ⟨h2, t2, l2⟩, k⟩ := h
  have ne : q * s ≠ 0 := Int.mul_ne_zero (by have := l1.pos; omega) (by have := l2.pos; omega)
  have bqs : Bits 2200 (q * s) := l1.bq.mul l2.bq
  try dsimp only [List.set]
  walk_at "zz"
  refine z_repU0 l1.bp l2.bq (by omega) ?_
  try dsimp only [List.set]
  walk_at "zz"
  refine z_repU0 l2.bp l1.bq (by omega) ?_
  try dsimp only [List.set]
  walk_at "zz"
  refine z_repU0 l1.bq l2.bq (by omega) ?_
  try dsimp only [List.set]
  walk_at "zz"
  refine z_own2R (IsR.mono (by walk_at "sm") h1) (IsR.mono (by walk_at "sm") h2) ?_
  refine ⟨_, _, rfl, a, b, p, q, r, s, rfl, rfl, IsR.mono (by walk_at "sm") h1, IsR.mono (by walk_at "sm") h2, l1, l2, fun c1 H1 s1 hc1 => ⟨⟨_, rfl⟩, ?_⟩⟩
  try dsimp only [List.set]
  walk_at "zz"
  refine ⟨_, _, rfl, _, _, 2200, rfl, rfl, ne, bqs, by decide, fun w1 G1 g1 hw1 => ?_⟩
  try dsimp only [List.set]
  walk_at "zz"
  refine ⟨_, _, rfl, c1, w1, _, _, rfl, rfl, hc1.mono g1, hw1, ?_⟩
  try dsimp only [List.set]
  walk_at "zz"
  refine z_own2R (IsR.mono (by walk_at "sm") h1) (IsR.mono (by walk_at "sm") h2) ?_
  refine ⟨_, _, rfl, a, b, p, q, r, s, rfl, rfl, IsR.mono (by walk_at "sm") h1, IsR.mono (by walk_at "sm") h2, l1, l2, fun c2 H2 s2 hc2 => ⟨⟨_, rfl⟩, ?_⟩⟩
  try dsimp only [List.set]
  walk_at "zz"
  refine ⟨_, _, rfl, _, _, 2200, rfl, rfl, ne, bqs, by decide, fun w2 G2 g2 hw2 => ?_⟩
  try dsimp only [List.set]
  walk_at "zz"
  refine ⟨_, _, rfl, c2, w2, _, _, rfl, rfl, hc2.mono g2, hw2, ?_⟩
  try dsimp only [List.set]
  walk_at "zz"
  refine z_own2R (IsR.mono (by walk_at "sm") h1) (IsR.mono (by walk_at "sm") h2) ?_
  refine ⟨_, _, rfl, a, b, p, q, r, s, rfl, rfl, IsR.mono (by walk_at "sm") h1, IsR.mono (by walk_at "sm") h2, l1, l2, fun c3 H3 s3 hc3 => ⟨⟨_, rfl⟩, ?_⟩⟩
  try dsimp only [List.set]
  walk_at "zz"
  refine z_repU0 l1.bp l2.bp (by omega) ?_
  try dsimp only [List.set]
  walk_at "zz"
  refine ⟨_, _, rfl, _, _, 2200, rfl, rfl, ne, bqs, by decide, fun w3 G3 g3 hw3 => ?_⟩
  try dsimp only [List.set]
  walk_at "zz"
  refine ⟨_, _, rfl, c3, w3, _, _, rfl, rfl, hc3.mono g3, hw3, ?_⟩
  try dsimp only [List.set]
  walk_at "zz"
  refine ⟨_, _, rfl, a, b, p, q, r, s, rfl, rfl, IsR.mono (by walk_at "sm") h1, IsR.mono (by walk_at "sm") h2, l1, l2, ?_⟩
  try dsimp only [List.set]
  walk_at "zz"
  rw [decide_eq_true (due_cmp (x := p * s) (y := r * q)).1.symm]
  try dsimp only [List.set]
  walk_at "zz"
  refine ⟨_, _, rfl, b, a, r, s, p, q, rfl, rfl, IsR.mono (by walk_at "sm") h2, IsR.mono (by walk_at "sm") h1, l2, l1, ?_⟩
  try dsimp only [List.set]
  walk_at "zz"
  rw [decide_eq_true (due_cmp (x := p * s) (y := r * q)).2.symm]
  try dsimp only [List.set]
  walk_at "zz"
  refine z_eqOR (IsR.mono (by walk_at "sm") h1) (IsR.mono (by walk_at "sm") h2) ?_
  refine ⟨_, _, rfl, a, p, q, rfl, IsR.mono (by walk_at "sm") h1, .inl ⟨b, r, s, rfl, IsR.mono (by walk_at "sm") h2, ⟨_, rfl⟩, ?_⟩⟩
  rw [(same_lo l1 l2).1]
  try dsimp only [List.set]
  walk_at "zz"
  refine ⟨_, _, rfl, _, _, rfl, rfl, ?_⟩
  rw [decide_eq_true rfl]
  try dsimp only [List.set]
  walk_at "zz"
  refine z_eqOR (IsR.mono (by walk_at "sm") h2) (IsR.mono (by walk_at "sm") h1) ?_
  refine ⟨_, _, rfl, b, r, s, rfl, IsR.mono (by walk_at "sm") h2, .inl ⟨a, p, q, rfl, IsR.mono (by walk_at "sm") h1, ⟨_, rfl⟩, ?_⟩⟩
  rw [(same_lo l1 l2).2]
  try dsimp only [List.set]
  walk_at "zz"
  refine ⟨_, _, rfl, _, _, rfl, rfl, ?_⟩
  rw [decide_eq_true rfl]
  exact k _ (by walk_at "sm")
theorem c_law_sums (L : Lw K mg) : Cal P w K mg base 4 "_law_sums" (sp4 (fs_sums K)) [] := by
  obtain ⟨fd, F⟩ := L.d_law_sums
  exact ⟨⟨_, fd, ["a", "b", "one", "two"], [], ok_law_sums L F, L.g_law_sums, F.kp, F.bindsN (fun _ _ _ _ _ _ us hl => match us, hl with | [_, _, _, _], _ => rfl), .nil⟩⟩
theorem ok_law_quotient (L : Lw K mg) {fd : FuncData} (F : FunD K "_law_quotient" "_law_quotient" (defArgs s_law_quotient) (defBody s_law_quotient) (defScope s_law_quotient) (df_law_quotient.dvs K) (df_law_quotient.kws K) (He.fAd K ("_law_quotient", none)) fd) : FnOk P w K mg base (L2N.CX P w) 4 (He.fAd K ("_law_quotient", none)) fd (["a", "b", "one", "two"] : List Str) (sp4 (fs_quo K)) := by
  refine FunD.ok F sc_law_quotient len4 (fun cdv A outer s H vs Q E hr h => ?_)
  obtain ⟨x, y, z, u, rfl, h⟩ := h
  refine ⟨_, (pss_cons (ps_if (pt_cmpR op_ne (pe_ix (ix_seqK (K := K) rfl) (pv 3) pe_int (fun _ _ => rfl)) pe_int (nomark _)) (pss_cons (ps_set (i := 4) sc_law_quotient.nd rfl (by first | exact Or.inl rfl | exact Or.inr rfl) (pe_c (c_law_low (K := K) L) hr (by decide) (L2N.takes_of rfl rfl rfl rfl) (pa_cons (pe_op o_rep2 (pe_ix (ix_seqK (K := K) rfl) (pv 2) pe_int (fun _ _ => rfl)) (pe_ix (ix_seqK (K := K) rfl) (pv 3) pe_int (fun _ _ => rfl))) (pa_cons (pe_op o_rep2 (pe_ix (ix_seqK (K := K) rfl) (pv 2) pe_int (fun _ _ => rfl)) (pe_ix (ix_seqK (K := K) rfl) (pv 3) pe_int (fun _ _ => rfl))) pa_nil))))
    (pss_one (ps_ret (pe_c (c_law_is (K := K) L) hr (by decide) (L2N.takes_of rfl rfl rfl rfl) (pa_cons (pe_mt (c_Ratio_divided (K := K) L) hr (by decide) (L2N.takes_of rfl rfl rfl rfl) (pv 0) (pa_cons (pv 1) pa_nil)) (pa_cons (pv 4) pa_nil)))))) pss_nil)
    (pss_cons (L2N.ps_try_as (i := 5) rfl rfl sc_law_quotient.nd rfl rfl ⟨rfl, by decide, Or.inl L.g_ZeroBottom⟩ (L2N.takes_of rfl rfl rfl rfl)
    (fun W pn xe tk po => (pss_one (ps_expr (pe_mt (c_Ratio_divided (K := K) L) hr (by decide) tk (pv 0) (pa_cons (pv 1) pa_nil)))))
    (fun a oe cls dd pn hz hf => (pss_one (ps_ret (pe_and (pe_callB (call_isEx L.ec_ZeroBottom (L2N.Zn.zc hz) hf) (by rfl) L.f_isinstance (by decide +kernel) (pa_cons (pv 5) (pa_cons (pe_cls L.g_NoughtError) pa_nil))) (pe_one (pe_not (pe_callB (call_isEx L.ec_ZeroBottom (L2N.Zn.zc hz) hf) (by rfl) L.f_isinstance (by decide +kernel) (pa_cons (pv 5) (pa_cons (pe_cls L.g_BadText) pa_nil))))))))))
    (pss_one (ps_ret pe_bl)))), ?_⟩
  rw [show L2.start (["a", "b", "one", "two", "due", "e"] : List Str) [x, y, z, u] = [some x, some y, some z, some u, none, none] from rfl]
  obtain ⟨a, b, t, v, p, q, r, s, rfl, rfl, rfl, rfl, ⟨h1, t1, l1⟩, ⟨h2, t2, l2⟩, k⟩ := h
  have ne : q * s ≠ 0 := Int.mul_ne_zero (by have := l1.pos; omega) (by have := l2.pos; omega)
  have bqs : Bits 2200 (q * s) := l1.bq.mul l2.bq
  try dsimp only [List.set]
  walk_at "zz"
  refine z_d2 (fun c => ?_) (fun c => ?_)
  · try dsimp only [List.set]
    walk_at "zz"
    refine ⟨_, _, rfl, a, b, p, q, r, s, rfl, rfl, h1, h2, l1, l2.bp, l2.bq, fun z => absurd c z, fun _ H1 s1 => ?_⟩
    refine z_as L.xm_ZeroBottom_ZeroBottom (fun a2 ha2 => ?_)
    try dsimp only [List.set]
    walk_at "zz"
    refine z_isX0 L.kt_ZeroBottom_NoughtError ?_
    try dsimp only [List.set]
    walk_at "zz"
    refine z_isX0 L.kt_ZeroBottom_BadText ?_
    try dsimp only [List.set]
    walk_at "zz"
    exact k _ s1
  · have nr : q * r ≠ 0 := Int.mul_ne_zero (by have := l1.pos; omega) c
    try dsimp only [List.set]
    walk_at "zz"
    refine z_repU0 l1.bp l2.bq (by omega) ?_
    try dsimp only [List.set]
    walk_at "zz"
    refine z_repU0 l1.bq l2.bp (by omega) ?_
    try dsimp only [List.set]
    walk_at "zz"
    refine ⟨_, _, rfl, _, _, 2200, rfl, rfl, nr, l1.bq.mul l2.bp, by decide, fun t3 G g ht => ?_⟩
    try dsimp only [List.set]
    walk_at "zz"
    refine ⟨_, _, rfl, a, b, p, q, r, s, rfl, rfl, IsR.mono g h1, IsR.mono g h2, l1, l2.bp, l2.bq, fun _ c1 H2 s2 hc => ?_, fun z => absurd z c⟩
    try dsimp only [List.set]
    walk_at "zz"
    exact ⟨_, _, rfl, c1, t3, _, _, rfl, rfl, hc, s2 _ _ ht, k _ (g.trans s2)⟩
theorem c_law_quotient (L : Lw K mg) : Cal P w K mg base 4 "_law_quotient" (sp4 (fs_quo K)) [] := by
  obtain ⟨fd, F⟩ := L.d_law_quotient
  exact ⟨⟨_, fd, ["a", "b", "one", "two"], [], ok_law_quotient L F, L.g_law_quotient, F.kp, F.bindsN (fun _ _ _ _ _ _ us hl => match us, hl with | [_, _, _, _], _ => rfl), .nil⟩⟩
theorem ok_law_no_bottom (L : Lw K mg) {fd : FuncData} (F : FunD K "_law_no_bottom" "_law_no_bottom" (defArgs s_law_no_bottom) (defBody s_law_no_bottom) (defScope s_law_no_bottom) (df_law_no_bottom.dvs K) (df_law_no_bottom.kws K) (He.fAd K ("_law_no_bottom", none)) fd) : FnOk P w K mg base (L2N.CX P w) 3 (He.fAd K ("_law_no_bottom", none)) fd (["top"] : List Str) (sp1 fs_nob) := by
  refine FunD.ok F sc_law_no_bottom len1 (fun cdv A outer s H vs Q E hr h => ?_)
  obtain ⟨x, rfl, h⟩ := h
  refine ⟨_, (pss_cons (L2N.ps_try_as (i := 1) rfl rfl sc_law_no_bottom.nd rfl rfl ⟨rfl, by decide, Or.inl L.g_ZeroBottom⟩ (L2N.takes_of rfl rfl rfl rfl)
    (fun W pn xe tk po => (pss_one (ps_expr (pe_mk (c_RatioD_initD (K := K) L) hr (by decide) tk (pa_cons (pv 0) (pa_cons pe_int pa_nil))))))
    (fun a oe cls dd pn hz hf => (pss_cons (ps_if (PW.pt (pw_or (pt_val (pe_callB (call_isEx L.ec_ZeroBottom (L2N.Zn.zc hz) hf) (by rfl) L.f_isinstance (by decide +kernel) (pa_cons (pv 1) (pa_cons (pe_cls L.g_BadText) pa_nil)))) (pw_or1 (pt_val (pe_callB (call_isEx L.ec_ZeroBottom (L2N.Zn.zc hz) hf) (by rfl) L.f_isinstance (by decide +kernel) (pa_cons (pv 1) (pa_cons (pe_cls L.g_OutOfBounds) pa_nil))))))) (pss_one (ps_ret pe_bl)) pss_nil)
    (pss_one (ps_ret (pe_and (pe_callB (call_isEx L.ec_ZeroBottom (L2N.Zn.zc hz) hf) (by rfl) L.f_isinstance (by decide +kernel) (pa_cons (pv 1) (pa_cons (pe_cls L.g_NoughtError) pa_nil))) (pe_one (pe_callB (call_isEx L.ec_ZeroBottom (L2N.Zn.zc hz) hf) (by rfl) L.f_isinstance (by decide +kernel) (pa_cons (pv 1) (pa_cons (pe_ty "ValueError" (by rfl) L.f_ValueError (by decide +kernel)) pa_nil))))))))))
    (pss_one (ps_ret pe_bl))), ?_⟩
  rw [show L2.start (["top", "e"] : List Str) [x] = [some x, none] from rfl]
  obtain ⟨i, rfl, k⟩ := h
  try dsimp only [List.set]
  walk_at "zz"
  intro x dx hx hdx ne
  refine ⟨_, _, _, rfl, x, dx, H, _, 0, rfl, rfl, rfl, rfl, hx, hdx, ne, bits_up (bits_of (by decide) (by decide)) (by decide), fun z => absurd rfl z, fun _ H1 s1 => ?_⟩
  refine z_as L.xm_ZeroBottom_ZeroBottom (fun a2 ha2 => ?_)
  try dsimp only [List.set]
  walk_at "zz"
  refine z_isX0 L.kt_ZeroBottom_BadText ?_
  try dsimp only [List.set]
  walk_at "zz"
  refine z_isX0 L.kt_ZeroBottom_OutOfBounds ?_
  try dsimp only [List.set]
  walk_at "zz"
  refine z_isX0 L.kt_ZeroBottom_NoughtError ?_
  try dsimp only [List.set]
  walk_at "zz"
  refine z_isX0T L.kt_ZeroBottom_ValueError ?_
  try dsimp only [List.set]
  walk_at "zz"
  exact k _ s1
theorem c_law_no_bottom (L : Lw K mg) : Cal P w K mg base 3 "_law_no_bottom" (sp1 fs_nob) [] := by
  obtain ⟨fd, F⟩ := L.d_law_no_bottom
  exact ⟨⟨_, fd, ["top"], [], ok_law_no_bottom L F, L.g_law_no_bottom, F.kp, F.bindsN (fun _ _ _ _ _ _ us hl => match us, hl with | [_], _ => rfl), .nil⟩⟩
theorem ok_law_alone (L : Lw K mg) {fd : FuncData} (F : FunD K "_law_alone" "_law_alone" (defArgs s_law_alone) (defBody s_law_alone) (defScope s_law_alone) (df_law_alone.dvs K) (df_law_alone.kws K) (He.fAd K ("_law_alone", none)) fd) : FnOk P w K mg base (L2N.CX P w) 5 (He.fAd K ("_law_alone", none)) fd (["a", "one"] : List Str) (sp2 (fs_one K)) := by
  refine FunD.ok F sc_law_alone len2 (fun cdv A outer s H vs Q E hr h => ?_)
  obtain ⟨x, y, rfl, h⟩ := h
  refine ⟨_, (pss_cons (ps_if (pt_not (pt_val (pe_c (c_law_is (K := K) L) hr (by decide) (L2N.takes_of rfl rfl rfl rfl) (pa_cons (pe_un (un_or2 o_neg (un_own (c_RatioD_negD (K := K) L) hr (by decide) passF)) (pv 0)) (pa_cons (pe_tup (pa_cons (pe_un (un_or2 o_neg (un_own (c_RatioD_negD (K := K) L) hr (by decide) passF)) (pe_ix (ix_seqK (K := K) rfl) (pv 1) pe_int (fun _ _ => rfl))) (pa_cons (pe_ix (ix_seqK (K := K) rfl) (pv 1) pe_int (fun _ _ => rfl)) pa_nil))) pa_nil))))) (pss_one (ps_ret pe_bl)) pss_nil)
    (pss_cons (ps_if (pt_not (pt_val (pe_c (c_law_is (K := K) L) hr (by decide) (L2N.takes_of rfl rfl rfl rfl) (pa_cons (pe_callB (o_abs3 (c_RatioD_absD (K := K) L) hr (by decide) passF) (by rfl) L.f_abs (by decide +kernel) (pa_cons (pv 0) pa_nil)) (pa_cons (pe_tup (pa_cons (pe_callB (o_abs3 (c_RatioD_absD (K := K) L) hr (by decide) passF) (by rfl) L.f_abs (by decide +kernel) (pa_cons (pe_ix (ix_seqK (K := K) rfl) (pv 1) pe_int (fun _ _ => rfl)) pa_nil)) (pa_cons (pe_ix (ix_seqK (K := K) rfl) (pv 1) pe_int (fun _ _ => rfl)) pa_nil))) pa_nil))))) (pss_one (ps_ret pe_bl)) pss_nil)
    (pss_cons (ps_if (pt_not (pt_val (pe_c (c_law_whole (K := K) L) hr (by decide) (L2N.takes_of rfl rfl rfl rfl) (pa_cons (pe_mt0 (c_Ratio_sign (K := K) L) hr (by decide) (L2N.takes_of rfl rfl rfl rfl) (pv 0)) (pa_cons (pe_op o_sub (pe_callTy o_int1 (by rfl) L.f_int (by decide +kernel) (pa_cons (pe_cmpR o_gt (pe_ix (ix_seqK (K := K) rfl) (pv 1) pe_int (fun _ _ => rfl)) pe_int (nomark _)) pa_nil)) (pe_callTy o_int1 (by rfl) L.f_int (by decide +kernel) (pa_cons (pe_cmpR o_lt (pe_ix (ix_seqK (K := K) rfl) (pv 1) pe_int (fun _ _ => rfl)) pe_int (nomark _)) pa_nil))) pa_nil))))) (pss_one (ps_ret pe_bl)) pss_nil)
    (pss_cons (ps_set (i := 2) sc_law_alone.nd rfl (by first | exact Or.inl rfl | exact Or.inr rfl) (pe_mt0 (c_Ratio_floor (K := K) L) hr (by decide) (L2N.takes_of rfl rfl rfl rfl) (pv 0)))
    (pss_cons (ps_set (i := 3) sc_law_alone.nd rfl (by first | exact Or.inl rfl | exact Or.inr rfl) (pe_mt0 (c_Ratio_ceil (K := K) L) hr (by decide) (L2N.takes_of rfl rfl rfl rfl) (pv 0)))
    (pss_cons (ps_if (PW.pt (pw_or (pt_not (pt_val (pe_c (c_law_whole (K := K) L) hr (by decide) (L2N.takes_of rfl rfl rfl rfl) (pa_cons (pv 2) (pa_cons (pv 2) pa_nil))))) (pw_or1 (pt_not (pt_val (pe_c (c_law_whole (K := K) L) hr (by decide) (L2N.takes_of rfl rfl rfl rfl) (pa_cons (pv 3) (pa_cons (pv 3) pa_nil)))))))) (pss_one (ps_ret pe_bl)) pss_nil)
    (pss_cons (ps_if (PW.pt (pw_or (pt_cmpR o_gt (pe_op o_rep2 (pv 2) (pe_ix (ix_seqK (K := K) rfl) (pv 1) pe_int (fun _ _ => rfl))) (pe_ix (ix_seqK (K := K) rfl) (pv 1) pe_int (fun _ _ => rfl)) (nomark _)) (pw_or1 (pt_cmpR o_le (pe_op o_rep2 (pe_op o_cat3 (pv 2) pe_int) (pe_ix (ix_seqK (K := K) rfl) (pv 1) pe_int (fun _ _ => rfl))) (pe_ix (ix_seqK (K := K) rfl) (pv 1) pe_int (fun _ _ => rfl)) (nomark _))))) (pss_one (ps_ret pe_bl)) pss_nil)
    (pss_one (ps_ret (pe_and (pe_cmpR o_ge (pe_op o_rep2 (pv 3) (pe_ix (ix_seqK (K := K) rfl) (pv 1) pe_int (fun _ _ => rfl))) (pe_ix (ix_seqK (K := K) rfl) (pv 1) pe_int (fun _ _ => rfl)) (nomark _)) (pe_one (pe_cmpR o_lt (pe_op o_rep2 (pe_op o_sub (pv 3) pe_int) (pe_ix (ix_seqK (K := K) rfl) (pv 1) pe_int (fun _ _ => rfl))) (pe_ix (ix_seqK (K := K) rfl) (pv 1) pe_int (fun _ _ => rfl)) (nomark _))))))))))))), ?_⟩
  rw [show L2.start (["a", "one", "low", "high"] : List Str) [x, y] = [some x, some y, none, none] from rfl]
  obtain ⟨a, t, p, q, rfl, rfl, ⟨h1, t1, l1⟩, k⟩ := h
  have q0 := l1.pos
  have bq9 : Bits 8999 q := l1.bq.up (by decide)
  have bl : Bits 1100 (p / q) := l1.bp.div
  have bh : Bits 1100 (-(-p / q)) := (l1.bp.neg.div).neg
  have f1 := Int.ediv_mul_le p (show q ≠ 0 by omega)
  have f2 := Int.lt_ediv_add_one_mul_self p q0
  have f3 := Int.ediv_mul_le (-p) (show q ≠ 0 by omega)
  have f4 := Int.lt_ediv_add_one_mul_self (-p) q0
  have f5 : p ≤ -(-p / q) * q := by
    rw [Int.neg_mul]
    omega
  have f6 : (-(-p / q) - 1) * q < p := by
    have : (-(-p / q) - 1) * q = -((-p / q + 1) * q) := by grind
    omega
  try dsimp only [List.set]
  walk_at "zz"
  refine z_ownN h1 ?_
  refine ⟨_, rfl, a, p, q, rfl, h1, by omega, bq9, fun c1 H1 s1 hc1 => ?_⟩
  obtain ⟨e1, e2⟩ := rt_low (n := -p) q0 (by rw [Int.neg_gcd]; exact l1.g)
  rw [show rt ((fun p => -p) p) q = rt (-p) q from rfl, show rb ((fun p => -p) p) q = rb (-p) q from rfl, e1, e2] at hc1
  try dsimp only [List.set]
  walk_at "zz"
  refine ⟨_, _, rfl, c1, _, _, _, rfl, rfl, IsR.mono (by walk_at "sm") hc1, by walk_at "up", ?_⟩
  try dsimp only [List.set]
  walk_at "zz"
  refine z_absR (IsR.mono (by walk_at "sm") h1) ?_
  refine ⟨_, rfl, a, p, q, rfl, IsR.mono (by walk_at "sm") h1, by omega, bq9, fun c2 H2 s2 hc2 => ?_⟩
  obtain ⟨e3, e4⟩ := rt_low (n := ((p.natAbs : Nat) : Int)) q0 (by
    show Nat.gcd (Int.natAbs ((p.natAbs : Nat) : Int)) q.natAbs = 1
    rw [Int.natAbs_natCast]
    exact l1.g)
  rw [show rt ((fun p => ((p.natAbs : Nat) : Int)) p) q = rt ((p.natAbs : Nat) : Int) q from rfl, show rb ((fun p => ((p.natAbs : Nat) : Int)) p) q = rb ((p.natAbs : Nat) : Int) q from rfl, e3, e4] at hc2
  try dsimp only [List.set]
  walk_at "zz"
  refine ⟨_, _, rfl, c2, _, _, _, rfl, rfl, IsR.mono (by walk_at "sm") hc2, by walk_at "up", ?_⟩
  try dsimp only [List.set]
  walk_at "zz"
  refine ⟨_, rfl, a, p, q, rfl, IsR.mono (by walk_at "sm") h1, ?_⟩
  try dsimp only [List.set]
  walk_at "zz"
  rw [decide_eq_true (due_cmp (x := p) (y := 0)).1.symm]
  try dsimp only [List.set]
  walk_at "zz"
  refine ⟨_, rfl, a, p, q, rfl, IsR.mono (by walk_at "sm") h1, l1, ?_⟩
  try dsimp only [List.set]
  walk_at "zz"
  refine ⟨_, rfl, a, p, q, rfl, IsR.mono (by walk_at "sm") h1, l1, ?_⟩
  dsimp only
  try dsimp only [List.set]
  walk_at "zz"
  rw [decide_eq_true rfl]
  try dsimp only [List.set]
  walk_at "zz"
  rw [decide_eq_true rfl]
  try dsimp only [List.set]
  walk_at "zz"
  refine z_repU0 bl l1.bq (by omega) ?_
  try dsimp only [List.set]
  walk_at "zz"
  rw [decide_eq_false (by omega)]
  try dsimp only [List.set]
  walk_at "zz"
  refine z_repU0 (bit1 bl).1 l1.bq (by omega) ?_
  try dsimp only [List.set]
  walk_at "zz"
  rw [decide_eq_false (by omega)]
  try dsimp only [List.set]
  walk_at "zz"
  refine z_repU0 bh l1.bq (by omega) ?_
  try dsimp only [List.set]
  walk_at "zz"
  rw [decide_eq_true f5]
  try dsimp only [List.set]
  walk_at "zz"
  refine z_repU0 (bit1 bh).2 l1.bq (by omega) ?_
  try dsimp only [List.set]
  walk_at "zz"
  rw [decide_eq_true f6]
  exact k _ (by walk_at "sm")
theorem c_law_alone (L : Lw K mg) : Cal P w K mg base 5 "_law_alone" (sp2 (fs_one K)) [] := by
  obtain ⟨fd, F⟩ := L.d_law_alone
  exact ⟨⟨_, fd, ["a", "one"], [], ok_law_alone L F, L.g_law_alone, F.kp, F.bindsN (fun _ _ _ _ _ _ us hl => match us, hl with | [_, _], _ => rfl), .nil⟩⟩
theorem ok_law_powers (L : Lw K mg) {fd : FuncData} (F : FunD K "_law_powers" "_law_powers" (defArgs s_law_powers) (defBody s_law_powers) (defScope s_law_powers) (df_law_powers.dvs K) (df_law_powers.kws K) (He.fAd K ("_law_powers", none)) fd) : FnOk P w K mg base (L2N.CX P w) 5 (He.fAd K ("_law_powers", none)) fd (["a", "one", "exponents"] : List Str) (sp3 (fs_pows K)) := by
  refine FunD.ok F sc_law_powers len3 (fun cdv A outer s H vs Q E hr h => ?_)
  obtain ⟨x, y, z, rfl, h⟩ := h
  refine ⟨_, (pss_cons (ps_for (passes_of rfl) rfl (pi_listK (K := K) rfl (pv 2)) (pg_name (i := 3) sc_law_powers.nd rfl (by first | exact Or.inl rfl | exact Or.inr rfl)) (pss_cons (ps_set (i := 4) sc_law_powers.nd rfl (by first | exact Or.inl rfl | exact Or.inr rfl) pe_int)
    (pss_cons (ps_set (i := 5) sc_law_powers.nd rfl (by first | exact Or.inl rfl | exact Or.inr rfl) pe_int)
    (pss_cons (ps_for (passes_of rfl) rfl (pi_range1 (by rfl) L.f_range (pa_cons (pv 3) pa_nil)) (pg_name (i := 6) sc_law_powers.nd rfl (by first | exact Or.inl rfl | exact Or.inr rfl)) (pss_cons (ps_set (i := 4) sc_law_powers.nd rfl (by first | exact Or.inl rfl | exact Or.inr rfl) (pe_op o_rep2 (pv 4) (pe_ix (ix_seqK (K := K) rfl) (pv 1) pe_int (fun _ _ => rfl))))
    (pss_one (ps_set (i := 5) sc_law_powers.nd rfl (by first | exact Or.inl rfl | exact Or.inr rfl) (pe_op o_rep2 (pv 5) (pe_ix (ix_seqK (K := K) rfl) (pv 1) pe_int (fun _ _ => rfl)))))))
    (pss_one (ps_if (pt_not (pt_val (pe_c (c_law_is (K := K) L) hr (by decide) (L2N.takes_of rfl rfl rfl rfl) (pa_cons (pe_mt (c_Ratio_raised (K := K) L) hr (by decide) (L2N.takes_of rfl rfl rfl rfl) (pv 0) (pa_cons (pv 3) pa_nil)) (pa_cons (pe_tup (pa_cons (pv 4) (pa_cons (pv 5) pa_nil))) pa_nil))))) (pss_one (ps_ret pe_bl)) pss_nil))))))
    (pss_one (ps_ret pe_bl))), ?_⟩
  rw [show L2.start (["a", "one", "exponents", "exponent", "top", "bottom", "k"] : List Str) [x, y, z] = [some x, some y, some z, none, none, none, none] from rfl]
  obtain ⟨a, t, l, p, q, ns, rfl, rfl, rfl, ⟨h1, t1, l1⟩, hl, hn, hb, k⟩ := h
  try dsimp only [List.set]
  walk_at "zz"
  refine z_foV hl (fun i σ' H' => ∃ x3 x4 x5 x6 : Option V, σ' = [some (.ref a), some (.ref t), some (.ref l), x3, x4, x5, x6] ∧ Same H H') ⟨_, _, _, _, rfl, fun _ _ h => h⟩ (fun i σ' H' z => by obtain ⟨_, _, _, _, _, s⟩ := z; exact s _ _ hl) ?_ ?_
  · rintro i x σ' H' ex ⟨x3, x4, x5, x6, rfl, sh⟩
    obtain ⟨n, hm, rfl⟩ := List.mem_map.mp (List.mem_of_getElem? ex)
    obtain ⟨n0, n1⟩ := hb n hm
    obtain ⟨m, rfl⟩ : ∃ m : Nat, n = (m : Int) := ⟨n.toNat, by omega⟩
    have h2 := h1.mono sh
    have t2 := sh _ _ t1
    try dsimp only [List.set]
    walk_at "zz"
    refine z_foR (n := (m : Int)) (by omega) (by omega) (fun j σ2 G => ∃ x7 : Option V, σ2 = [some (.ref a), some (.ref t), some (.ref l), some (.int (m : Int)), some (.int (p ^ j)), some (.int (q ^ j)), x7] ∧ H' = G) ⟨x6, by rw [Int.pow_zero, Int.pow_zero] <;> rfl, rfl⟩ ?_ ?_
    · rintro j σ2 G hj ⟨x7, rfl, rfl⟩
      have bj := bpow l1.bp j
      have cj := bpow l1.bq j
      have : j ≤ 64 := by omega
      try dsimp only [List.set]
      walk_at "zz"
      refine z_repU0 bj l1.bp (by omega) ?_
      try dsimp only [List.set]
      walk_at "zz"
      refine z_repU0 cj l1.bq (by omega) ?_
      try dsimp only [List.set]
      walk_at "zz"
      rw [← Int.pow_succ, ← Int.pow_succ]
      exact ⟨_, rfl, rfl⟩
    · rintro σ2 G ⟨x7, rfl, rfl⟩
      try dsimp only [List.set]
      walk_at "zz"
      refine ⟨_, _, rfl, a, p, q, (m : Int), rfl, rfl, h2, l1, fun m2 e hm2 c1 H2 s2 hc => ?_, fun z => absurd ⟨by omega, by omega⟩ z⟩
      obtain rfl : m = m2 := by omega
      try dsimp only [List.set]
      walk_at "zz"
      refine ⟨_, _, rfl, c1, _, _, _, rfl, rfl, IsR.mono (by walk_at "sm") hc, by walk_at "up", ?_⟩
      try dsimp only [List.set]
      walk_at "zz"
      exact ⟨_, _, _, _, rfl, by walk_at "sm"⟩
  · rintro σ' H' ⟨x3, x4, x5, x6, rfl, sh⟩
    try dsimp only [List.set]
    walk_at "zz"
    exact k _ sh
theorem c_law_powers (L : Lw K mg) : Cal P w K mg base 5 "_law_powers" (sp3 (fs_pows K)) [] := by
  obtain ⟨fd, F⟩ := L.d_law_powers
  exact ⟨⟨_, fd, ["a", "one", "exponents"], [], ok_law_powers L F, L.g_law_powers, F.kp, F.bindsN (fun _ _ _ _ _ _ us hl => match us, hl with | [_, _, _], _ => rfl), .nil⟩⟩
theorem ok_law_no_power (L : Lw K mg) {fd : FuncData} (F : FunD K "_law_no_power" "_law_no_power" (defArgs s_law_no_power) (defBody s_law_no_power) (defScope s_law_no_power) (df_law_no_power.dvs K) (df_law_no_power.kws K) (He.fAd K ("_law_no_power", none)) fd) : FnOk P w K mg base (L2N.CX P w) 5 (He.fAd K ("_law_no_power", none)) fd (["a", "exponent"] : List Str) (sp2 (fs_nop K)) := by
  refine FunD.ok F sc_law_no_power len2 (fun cdv A outer s H vs Q E hr h => ?_)
  obtain ⟨x, y, rfl, h⟩ := h
  refine ⟨_, (pss_cons (L2N.ps_try_as (i := 2) rfl rfl sc_law_no_power.nd rfl rfl ⟨rfl, by decide, Or.inl L.g_OutOfBounds⟩ (L2N.takes_of rfl rfl rfl rfl)
    (fun W pn xe tk po => (pss_one (ps_expr (pe_mt (c_Ratio_raised (K := K) L) hr (by decide) tk (pv 0) (pa_cons (pv 1) pa_nil)))))
    (fun a oe cls dd pn hz hf => (pss_cons (ps_if (PW.pt (pw_or (pt_val (pe_callB (call_isEx L.ec_OutOfBounds (L2N.Zn.zc hz) hf) (by rfl) L.f_isinstance (by decide +kernel) (pa_cons (pv 2) (pa_cons (pe_cls L.g_ZeroBottom) pa_nil)))) (pw_or1 (pt_val (pe_callB (call_isEx L.ec_OutOfBounds (L2N.Zn.zc hz) hf) (by rfl) L.f_isinstance (by decide +kernel) (pa_cons (pv 2) (pa_cons (pe_cls L.g_BadText) pa_nil))))))) (pss_one (ps_ret pe_bl)) pss_nil)
    (pss_one (ps_ret (pe_and (pe_callB (call_isEx L.ec_OutOfBounds (L2N.Zn.zc hz) hf) (by rfl) L.f_isinstance (by decide +kernel) (pa_cons (pv 2) (pa_cons (pe_cls L.g_NoughtError) pa_nil))) (pe_one (pe_ch (ch_law_whole (K := K) L) (room_suite hr _) (by decide) (hot_suite hz hf) (pa_cons (pe_xf L.xf_OutOfBounds L.na_OutOfBounds_value (L2N.Zn.zc hz) hf (pv 2)) (pa_cons (pv 1) pa_nil))))))))))
    (pss_one (ps_ret pe_bl))), ?_⟩
  rw [show L2.start (["a", "exponent", "e"] : List Str) [x, y] = [some x, some y, none] from rfl]
  obtain ⟨a, p, q, n, rfl, rfl, h1, l1, hn, k⟩ := h
  try dsimp only [List.set]
  walk_at "zz"
  refine ⟨_, _, rfl, a, p, q, n, rfl, rfl, h1, l1, fun m e hm => absurd (show 0 ≤ n ∧ n ≤ 64 by omega) hn, fun _ d H1 s1 hd => ?_⟩
  refine z_as L.xm_OutOfBounds_OutOfBounds (fun a2 ha2 => ?_)
  try dsimp only [List.set]
  walk_at "zz"
  refine z_isX hd L.kt_OutOfBounds_ZeroBottom ?_
  try dsimp only [List.set]
  walk_at "zz"
  refine z_isX hd L.kt_OutOfBounds_BadText ?_
  try dsimp only [List.set]
  walk_at "zz"
  refine z_isX hd L.kt_OutOfBounds_NoughtError ?_
  try dsimp only [List.set]
  walk_at "zz"
  refine z_xf hd lkA ?_
  try dsimp only [List.set]
  walk_at "zz"
  rw [decide_eq_true rfl]
  exact k _ s1
theorem c_law_no_power (L : Lw K mg) : Cal P w K mg base 5 "_law_no_power" (sp2 (fs_nop K)) [] := by
  obtain ⟨fd, F⟩ := L.d_law_no_power
  exact ⟨⟨_, fd, ["a", "exponent"], [], ok_law_no_power L F, L.g_law_no_power, F.kp, F.bindsN (fun _ _ _ _ _ _ us hl => match us, hl with | [_, _], _ => rfl), .nil⟩⟩
theorem ok_law_unlike (L : Lw K mg) {fd : FuncData} (F : FunD K "_law_unlike" "_law_unlike" (defArgs s_law_unlike) (defBody s_law_unlike) (defScope s_law_unlike) (df_law_unlike.dvs K) (df_law_unlike.kws K) (He.fAd K ("_law_unlike", none)) fd) : FnOk P w K mg base (L2N.CX P w) 2 (He.fAd K ("_law_unlike", none)) fd (["a", "one"] : List Str) (sp2 (fs_one K)) := by
  refine FunD.ok F sc_law_unlike len2 (fun cdv A outer s H vs Q E hr h => ?_)
  obtain ⟨x, y, rfl, h⟩ := h
  refine ⟨_, (pss_cons (ps_set (i := 2) sc_law_unlike.nd rfl (by first | exact Or.inl rfl | exact Or.inr rfl) (pe_lst (pa_cons (pe_ix (ix_seqK (K := K) rfl) (pv 1) pe_int (fun _ _ => rfl)) (pa_cons (pe_ix (ix_seqK (K := K) rfl) (pv 1) pe_int (fun _ _ => rfl)) (pa_cons (pv 1) (pa_cons (pe_callTy (callK rList1 (K := K) rfl o_list1) (by rfl) L.f_list (by decide +kernel) (pa_cons (pv 1) pa_nil)) (pa_cons (pe_c (c_law_text (K := K) L) hr (by decide) (L2N.takes_of rfl rfl rfl rfl) (pa_cons (pv 1) pa_nil)) (pa_cons pe_non (pa_cons pe_int (pa_cons pe_str pa_nil))))))))))
    (pss_one (ps_ret (pe_callB (callK rAll (K := K) rfl (cr_all rfl)) (by rfl) L.f_all (by decide +kernel) (pa_cons (pe_lc (own := [("thing", 3)]) (g := (gName 3)) (tt := tYes) rfl sc_law_unlike.nd (pi_listK (K := K) rfl (pv 2)) (blkOk_by (N := ["a", "one", "others", "thing"]) (sc := defScope s_law_unlike) (by decide +kernel)) (fun _ _ _ _ _ => pg_name (i := 3) sc_law_unlike.nd rfl (Or.inl rfl)) (fun _ _ _ _ _ => pts_nil) (fun _ _ _ _ _ => (pe_c (c_law_flag (K := K) L) hr (by decide) takesF (pa_cons (pe_cmpR (op_ownEqV (K := K) rfl (c_RatioD_eqD (K := K) L) hr (by decide) passF) (pv 0) (pv 3) (nomark _)) (pa_cons pe_bl pa_nil))))) pa_nil))))), ?_⟩
  rw [show L2.start (["a", "one", "others", "thing"] : List Str) [x, y] = [some x, some y, none, none] from rfl]
  obtain ⟨a, t, p, q, rfl, rfl, ⟨h1, t1, l1⟩, k⟩ := h
  have tp := l1.lx.tp
  have ln := l1.lx.ln
  try dsimp only [List.set]
  walk_at "zz"
  refine z_listT t1 (fun l2 H1 hp1 s1 el => ?_)
  try dsimp only [List.set]
  walk_at "zz"
  refine ⟨_, rfl, t, p, q, rfl, s1 _ _ t1, tp.1, tp.2, by omega, by omega, ?_⟩
  try dsimp only [List.set]
  walk_at "zz"
  rename_i lx HX hpx sx ex
  refine z_lcVF (f := fun _ => V.bl true) ex (by show 8 ≤ 16777216; decide) (fun i x G N hx sG cc => ⟨rfl, ?_⟩) (fun D G hD sD eD => ?_)
  · obtain ⟨ty, hty, hnf, hk⟩ : ∃ ty, TyX K G x ty ∧ PySem.W.notFirst K (He.ga K "Ratio") ty = true ∧ PySem.W.kitOne K ty (.ref (He.ga K "Ratio")) = some false := by
      have m := List.mem_of_getElem? hx
      simp only [List.mem_cons, List.not_mem_nil, or_false] at m
      rcases m with m | m | m | m | m | m | m | m <;> subst m
      · exact ⟨_, .base (.int _), nf_int, L.kt_int_Ratio⟩
      · exact ⟨_, .base (.int _), nf_int, L.kt_int_Ratio⟩
      · exact ⟨_, .base (.tup (sG _ _ (sx _ _ (s1 _ _ t1)))), nf_tuple, L.kt_tuple_Ratio⟩
      · exact ⟨_, .base (.lst (sG _ _ (sx _ _ el))), nf_list, L.kt_list_Ratio⟩
      · exact ⟨_, .base (.str _), nf_str, L.kt_str_Ratio⟩
      · exact ⟨_, .base .non, nf_non, L.kt_NoneType_Ratio⟩
      · exact ⟨_, .base (.int _), nf_int, L.kt_int_Ratio⟩
      · exact ⟨_, .base (.str _), nf_str, L.kt_str_Ratio⟩
    obtain ⟨dx, hdx⟩ := h1.mono ((s1.trans sx).trans sG)
    try dsimp only [List.set]
    walk_at "zz"
    refine ⟨a, dx, _, ty, rfl, hdx, hty, hnf, ?_⟩
    refine ⟨_, _, rfl, a, p, q, rfl, ⟨dx, hdx⟩, .inr ⟨ty, hty, hk, ⟨_, rfl⟩, ?_⟩⟩
    try dsimp only [List.set]
    walk_at "zz"
    refine ⟨_, _, rfl, _, _, rfl, rfl, ?_⟩
    rw [decide_eq_true rfl]
    exact cc _ (fun _ _ h => h)
  · try dsimp only [List.set]
    walk_at "zz"
    refine z_allB (bs := [true, true, true, true, true, true, true, true]) eD ?_
    exact k _ ((s1.trans sx).trans sD)
theorem c_law_unlike (L : Lw K mg) : Cal P w K mg base 2 "_law_unlike" (sp2 (fs_one K)) [] := by
  obtain ⟨fd, F⟩ := L.d_law_unlike
  exact ⟨⟨_, fd, ["a", "one"], [], ok_law_unlike L F, L.g_law_unlike, F.kp, F.bindsN (fun _ _ _ _ _ _ us hl => match us, hl with | [_, _], _ => rfl), .nil⟩⟩
end
end T
set_option maxHeartbeats 4000000
namespace T
open PySem PySem.Spec PyProof.Rows L2 Z
def fs_txs (K : Frag) : F5 := fun x y z u n H Q _ => ∃ (a b t v : Addr) (p q r s : Int) (k : Nat), x = .ref a ∧ y = .ref b ∧ z = .ref t ∧ u = .ref v ∧ n = .int ((k + 1 : Nat) : Int) ∧ Pr K H a t p q ∧ Pr K H b v r s ∧ 290 ≤ k ∧ k ≤ 310 ∧ ∀ H', Same H H' → Q (.bl true) H'
/-- a fraction as it is passed: top, bottom, factor -/
structure Fa (x y f : Int) : Prop where
  bx : Bits 1000 x
  bY : Bits 1000 y
  f0 : f ≠ 0
  f1 : -12 ≤ f ∧ f ≤ 12
def fs_frac : F3 := fun x y z H Q _ => ∃ (c : Addr) (at_ sz : Int), x = .ref c ∧ y = .int at_ ∧ z = .int sz ∧ IsPool H c ∧ 0 ≤ at_ ∧ at_ ≤ 10 ∧ 0 ≤ sz ∧ sz ≤ 7 ∧ ∀ t p q f H', Same H H' → H' t = some (.tup [.int p, .int q, .int f]) → Fa p q f → 1 ≤ q → Q (.ref t) H'
def fs_oth : F3 := fun x y z H Q _ => ∃ (c t0 : Addr) (sz p0 q0 f0 : Int), x = .ref c ∧ y = .ref t0 ∧ z = .int sz ∧ IsPool H c ∧ H t0 = some (.tup [.int p0, .int q0, .int f0]) ∧ Fa p0 q0 f0 ∧ 1 ≤ q0 ∧ 0 ≤ sz ∧ sz ≤ 7 ∧ ∀ t p q f H', Same H H' → H' t = some (.tup [.int p, .int q, .int f]) → Fa p q f → q ≠ 0 → Q (.ref t) H'
theorem ten300 : (10 : Nat) ^ 300 < 2 ^ 1000 ∧ (10 : Nat) ^ 31 < 2 ^ 1000 ∧ (10 : Nat) ^ 298 < 2 ^ 1000 := by decide +kernel
theorem u_cell {H : Hp} {Q : VK} {E : XK} {c : Addr} {k : Int} (h : IsPool H c) (h0 : 0 ≤ k) (q : ∀ v, Q (.int v) H) : sp2 fs_cell [.ref c, .int k] H Q E := ⟨_, _, rfl, c, k, rfl, rfl, h, h0, q⟩
theorem z_p12 {H : Hp} {Q : VK} (q : Q (.int 1000000000000) H) : zPow (.int 10) (.int 12) H Q := z_pow ⟨by decide, by decide, by decide⟩ q
theorem z_p30 {H : Hp} {Q : VK} (q : Q (.int 1000000000000000000000000000000) H) : zPow (.int 10) (.int 30) H Q := z_pow ⟨by decide, by decide, by decide⟩ q
theorem z_p6 {H : Hp} {Q : VK} (q : Q (.int 1000000) H) : zPow (.int 10) (.int 6) H Q := z_pow ⟨by decide, by decide, by decide⟩ q
theorem fac_at {i : Int} (h0 : 0 ≤ i) (h1 : i < 8) : ∃ f : Int, atI [V.int (-2), V.int 1, V.int 3, V.int (-1), V.int 6, V.int 12, V.int (-12), V.int 5] i = some (V.int f) ∧ f ≠ 0 ∧ -12 ≤ f ∧ f ≤ 12 := by
  have h : i = 0 ∨ i = 1 ∨ i = 2 ∨ i = 3 ∨ i = 4 ∨ i = 5 ∨ i = 6 ∨ i = 7 := by omega
  rcases h with rfl | rfl | rfl | rfl | rfl | rfl | rfl | rfl <;> exact ⟨_, rfl, by decide, by decide, by decide⟩
theorem bnd_at {i : Int} (h0 : 0 ≤ i) (h1 : i < 7) : ∃ b : Int, atI [V.int 12, V.int 12, V.int 12, V.int 12, V.int 1000000000000, V.int 1000000000000, V.int (1000000000000000000000000000000 - 1)] i = some (V.int b) ∧ 0 < b ∧ b < 10000000000000000000000000000000 := by
  have h : i = 0 ∨ i = 1 ∨ i = 2 ∨ i = 3 ∨ i = 4 ∨ i = 5 ∨ i = 6 := by omega
  rcases h with rfl | rfl | rfl | rfl | rfl | rfl | rfl <;> exact ⟨_, rfl, by decide, by decide⟩
theorem bb {v b : Int} (h0 : -b ≤ v) (h1 : v ≤ b) (hb : b < 10000000000000000000000000000000) : Bits 1000 v := by
  have e : (10000000000000000000000000000000 : Nat) < 2 ^ 1000 := by decide +kernel
  unfold Bits
  generalize (2 : Nat) ^ 1000 = T at *
  omega
theorem bg3 {v : Int} {k : Nat} (hk : k + 1 ≤ 300) (h0 : 1 ≤ v) (h1 : v < (((10 : Nat) ^ (k + 1) : Nat) : Int)) : Bits 1000 v ∧ Bits 1000 (-v) := by
  have e : (10 : Nat) ^ (k + 1) ≤ 10 ^ 300 := Nat.pow_le_pow_right (by decide) hk
  have e2 := ten300.1
  unfold Bits
  generalize (10 : Nat) ^ (k + 1) = U at *
  generalize (10 : Nat) ^ 300 = W at *
  generalize (2 : Nat) ^ 1000 = T at *
  omega
theorem b0 : Bits 1000 (0 : Int) := Bits.zero
theorem bst {v : Int} (h : Bits 1000 v) : (0 ≤ v → Bits 1000 (v - 1)) ∧ (v < 0 → Bits 1000 (v - -1)) := by
  have e : 2 ≤ (2 : Nat) ^ 1000 := by decide +kernel
  unfold Bits at *
  generalize (2 : Nat) ^ 1000 = T at *
  omega
local macro_rules | `(tactic| walk_at "up") => `(tactic| first
  | assumption
  | (refine' IsR.mono (by assumption) ?zup; case zup => walk_at "up")
  | (refine' IsE.mono (by assumption) ?zup; case zup => walk_at "up")
  | (refine' Same.at (by assumption) ?zup; case zup => walk_at "up")
  | (refine' SqL.of ?zup; case zup => walk_at "up")
  | (refine' L2.Same.seq (by assumption) ?zup; case zup => walk_at "up"))
local macro_rules | `(tactic| walk_at "z") => `(tactic| first
  | ((with_reducible refine' z_var ?zvh ?_); (case zvh => exact rfl))
  | with_reducible refine z_c ?_
  | with_reducible refine z_cons ?_
  | with_reducible refine z_nil ?_
  | with_reducible refine z_op ?_
  | with_reducible refine z_nx ?_
  | with_reducible refine z_seq ?_
  | with_reducible refine z_asg ?_
  | with_reducible refine z_asgG ?_
  | with_reducible refine z_call ?_
  | with_reducible refine z_sq0 ?_
  | with_reducible refine z_sq1 ?_
  | with_reducible refine z_ifS ?_
  | with_reducible refine z_test ?_
  | with_reducible refine z_tb ?_
  | with_reducible refine z_bl ?_
  | with_reducible refine z_blI ?_
  | with_reducible refine z_ret ?_
  | with_reducible refine z_rt ?_
  | with_reducible refine z_T ?_
  | with_reducible refine z_F ?_
  | with_reducible refine z_add ?_
  | with_reducible refine z_sub ?_
  | with_reducible refine z_neg ?_
  | with_reducible refine z_un ?_
  | with_reducible refine z_eqI ?_
  | with_reducible refine z_neI ?_
  | with_reducible refine z_lt ?_
  | with_reducible refine z_le ?_
  | with_reducible refine z_gt ?_
  | with_reducible refine z_ge ?_
  | with_reducible refine z_not ?_
  | with_reducible refine z_and ?_
  | with_reducible refine z_or ?_
  | with_reducible refine z_andV ?_
  | with_reducible refine z_orV ?_
  | with_reducible refine z_notV ?_
  | with_reducible refine z_if ?_
  | with_reducible refine z_cb ?_
  | with_reducible refine z_int1 ?_
  | with_reducible refine z_intb ?_
  | with_reducible refine z_abs ?_
  | with_reducible refine z_gcd ?_
  | with_reducible refine z_isi_ii ?_
  | with_reducible refine z_isi_ib ?_
  | with_reducible refine z_next ?_
  | with_reducible refine z_drop ?_
  | with_reducible refine z_par ?_
  | with_reducible refine z_par2 ?_
  | with_reducible refine z_tupN ?_
  | with_reducible refine z_lstN ?_
  | ((with_reducible refine' z_nt ?zl1 ?_); (case zl1 => exact Nat.le_of_ble_eq_true rfl); intro p H' hp hs he)
  | ((with_reducible refine' z_gtup ?zl1 ?zl2 ?_); (case zl1 => walk_at "up"); (case zl2 => exact rfl))
  | with_reducible refine z_bk ?_
  | with_reducible refine z_ct ?_
  | with_reducible refine z_break ?_
  | with_reducible refine z_cont ?_
  | with_reducible refine z_retN ?_
  | with_reducible refine z_nn ?_
  | with_reducible refine z_mk ?_
  | with_reducible refine z_gn ?_
  | with_reducible refine z_gcons ?_
  | with_reducible refine z_gnil ?_
  | with_reducible refine z_mt ?_
  | with_reducible refine z_mko ?_
  | with_reducible refine z_for2 ?_
  | with_reducible refine z_ownI ?_
  | ((with_reducible refine' z_lenL ?zl1 ?_); (case zl1 => walk_at "up"))
  | ((with_reducible refine' z_ixT ?zl1 ?zl2 ?_); (case zl1 => walk_at "up"); (case zl2 => exact rfl))
  | ((with_reducible refine' z_mulL ?zl1 ?zl2 ?_); (case zl1 => omega); (case zl2 => omega))
  | ((with_reducible refine' z_mulR ?zl1 ?zl2 ?_); (case zl1 => omega); (case zl2 => omega))
  | ((with_reducible refine' z_divS ?zl1 ?zl2 ?_); (case zl1 => omega); (case zl2 => omega))
  | ((with_reducible refine' z_mulW ?zl1 ?zl2 ?zl3 ?zl4 ?_); (case zl1 => omega); (case zl2 => omega); (case zl3 => omega); (case zl4 => omega))
  | ((with_reducible refine' z_divW ?zl1 ?zl2 ?_); (case zl1 => omega); (case zl2 => omega)))
local macro_rules | `(tactic| walk_at "zz") => `(tactic| repeat (walk_at "z"))
local macro_rules | `(tactic| walk_at "z") => `(tactic| with_reducible refine z_lstN ?_)
local macro_rules | `(tactic| walk_at "z") => `(tactic| with_reducible refine z_p6 ?_)
local macro_rules | `(tactic| walk_at "z") => `(tactic| with_reducible refine z_p12 ?_)
local macro_rules | `(tactic| walk_at "z") => `(tactic| with_reducible refine z_p13 ?_)
local macro_rules | `(tactic| walk_at "z") => `(tactic| with_reducible refine z_calln ?_)
local macro_rules | `(tactic| walk_at "z") => `(tactic| with_reducible refine z_xfS ?_)
local macro_rules | `(tactic| walk_at "z") => `(tactic| with_reducible refine z_lcS ?_)
local macro_rules | `(tactic| walk_at "z") => `(tactic| with_reducible refine z_lcRS ?_)
local macro_rules | `(tactic| walk_at "z") => `(tactic| with_reducible refine z_lcZS ?_)
local macro_rules | `(tactic| walk_at "z") => `(tactic| with_reducible refine z_foS ?_)
local macro_rules | `(tactic| walk_at "z") => `(tactic| with_reducible refine z_for1 ?_)
local macro_rules | `(tactic| walk_at "z") => `(tactic| with_reducible refine z_tsl ?_)
local macro_rules | `(tactic| walk_at "z") => `(tactic| with_reducible refine z_np ?_)
local macro_rules | `(tactic| walk_at "z") => `(tactic| with_reducible refine z_pt ?_)
local macro_rules | `(tactic| walk_at "z") => `(tactic| with_reducible refine z_pti ?_)
local macro_rules | `(tactic| walk_at "z") => `(tactic| with_reducible refine z_catI ?_)
local macro_rules | `(tactic| walk_at "z") => `(tactic| with_reducible refine z_isNI ?_)
local macro_rules | `(tactic| walk_at "z") => `(tactic| with_reducible refine z_isNN ?_)
local macro_rules | `(tactic| walk_at "z") => `(tactic| with_reducible refine z_notNI ?_)
local macro_rules | `(tactic| walk_at "z") => `(tactic| with_reducible refine z_notNN ?_)
local macro_rules | `(tactic| walk_at "z") => `(tactic| with_reducible refine z_gsub ?_)
local macro_rules | `(tactic| walk_at "z") => `(tactic| with_reducible refine z_isNb ?_)
local macro_rules | `(tactic| walk_at "z") => `(tactic| with_reducible refine z_notNb ?_)
local macro_rules | `(tactic| walk_at "z") => `(tactic| ((with_reducible refine' z_nlR ?zl1 ?_); (case zl1 => exact Nat.le_of_ble_eq_true rfl); intro p H' hp hs he))
local macro_rules | `(tactic| walk_at "z") => `(tactic| ((with_reducible refine' z_repR ?zl1 ?zl2 ?_); (case zl1 => omega); (case zl2 => omega)))
local macro_rules | `(tactic| walk_at "z") => `(tactic| ((with_reducible refine' z_repL ?zl1 ?zl2 ?_); (case zl1 => omega); (case zl2 => omega)))
local macro_rules | `(tactic| walk_at "z") => `(tactic| ((with_reducible refine' z_lenLst ?zl1 ?_); (case zl1 => walk_at "up")))
local macro_rules | `(tactic| walk_at "z") => `(tactic| ((with_reducible refine' z_cat ?zl1 ?zl2 ?zl3 ?_); (case zl1 => walk_at "up"); (case zl2 => walk_at "up"); (case zl3 => (simp only [List.length_map, List.length_cons, List.length_nil, List.length_append, List.length_replicate]; omega)); intro p H' hp hs he))
local macro_rules | `(tactic| walk_at "z") => `(tactic| with_reducible refine z_sfl ?_)
local macro_rules | `(tactic| walk_at "z") => `(tactic| with_reducible refine z_lcES ?_)
local macro_rules | `(tactic| walk_at "z") => `(tactic| with_reducible refine z_lcMS ?_)
local macro_rules | `(tactic| walk_at "z") => `(tactic| with_reducible refine z_foES ?_)
local macro_rules | `(tactic| walk_at "z") => `(tactic| with_reducible refine z_fo3S ?_)
local macro_rules | `(tactic| walk_at "z") => `(tactic| with_reducible refine z_sta ?_)
local macro_rules | `(tactic| walk_at "z") => `(tactic| with_reducible refine z_sta1 ?_)
local macro_rules | `(tactic| walk_at "z") => `(tactic| ((with_reducible refine' z_fldt ?zc1 ?zc2 ?zl1 ?zl2 ?_); (case zc1 => exact Lw.cl_Ratio (by assumption)); (case zc2 => exact Lw.na_Ratio_top (by assumption)); (case zl1 => exact rfl); (case zl2 => walk_at "up")))
local macro_rules | `(tactic| walk_at "z") => `(tactic| ((with_reducible refine' z_fldb ?zc1 ?zc2 ?zl1 ?zl2 ?_); (case zc1 => exact Lw.cl_Ratio (by assumption)); (case zc2 => exact Lw.na_Ratio_bottom (by assumption)); (case zl1 => exact rfl); (case zl2 => walk_at "up")))
local macro_rules | `(tactic| walk_at "z") => `(tactic| with_reducible refine z_c3I ?_)
local macro_rules | `(tactic| walk_at "z") => `(tactic| with_reducible refine z_r2I ?_)
local macro_rules | `(tactic| walk_at "z") => `(tactic| with_reducible refine z_for3 ?_)
local macro_rules | `(tactic| walk_at "z") => `(tactic| with_reducible refine z_tbits ?_)
local macro_rules | `(tactic| walk_at "z") => `(tactic| with_reducible refine z_tbi ?_)
local macro_rules | `(tactic| walk_at "z") => `(tactic| ((with_reducible refine' u_mod ?zl1 ?_); (case zl1 => omega)))
local macro_rules | `(tactic| walk_at "z") => `(tactic| with_reducible refine u_who ?_)
local macro_rules | `(tactic| walk_at "z") => `(tactic| with_reducible refine z_asg2 ?_)
local macro_rules | `(tactic| walk_at "z") => `(tactic| with_reducible refine z_c3S (by simp only [List.length_append, List.length_cons, List.length_nil]; omega) ?_)
local macro_rules | `(tactic| walk_at "z") => `(tactic| with_reducible refine z_tm0 ?_)
local macro_rules | `(tactic| walk_at "z") => `(tactic| with_reducible refine z_tm1 ?_)
local macro_rules | `(tactic| walk_at "z") => `(tactic| with_reducible refine z_isS ?_)
local macro_rules | `(tactic| walk_at "z") => `(tactic| with_reducible refine z_eqS ?_)
local macro_rules | `(tactic| walk_at "z") => `(tactic| with_reducible refine z_neS ?_)
local macro_rules | `(tactic| walk_at "z") => `(tactic| with_reducible refine z_isN ?_)
local macro_rules | `(tactic| walk_at "z") => `(tactic| with_reducible refine z_jsN ?_)
local macro_rules | `(tactic| walk_at "z") => `(tactic| with_reducible refine z_jsC ?_)
local macro_rules | `(tactic| walk_at "z") => `(tactic| with_reducible refine z_fmB ?_)
local macro_rules | `(tactic| walk_at "z") => `(tactic| ((with_reducible refine' z_cLit ?zl1 ?_); (case zl1 => first | with_reducible exact lt_0 | with_reducible exact lt_1 | with_reducible exact lt_2 | with_reducible exact lt_3 | with_reducible exact lt_4 | with_reducible exact lt_5 | with_reducible exact lt_6 | with_reducible exact lt_7 | with_reducible exact lt_8 | with_reducible exact lt_9 | with_reducible exact lt_10 | with_reducible exact lt_11 | with_reducible exact lt_12 | with_reducible exact lt_13 | with_reducible exact lt_14 | with_reducible exact lt_15 | with_reducible exact lt_16 | with_reducible exact lt_17 | with_reducible exact lt_18 | with_reducible exact lt_19 | with_reducible exact lt_20 | with_reducible exact lt_21)))
local macro_rules | `(tactic| walk_at "z") => `(tactic| with_reducible refine z_js0 ?_)
local macro_rules | `(tactic| walk_at "z") => `(tactic| ((with_reducible refine' z_mtR ?zl1 ?_); (case zl1 => walk_at "up")))
local macro_rules | `(tactic| walk_at "z") => `(tactic| ((with_reducible refine' z_c3L ?zl1 ?zl2 ?zl3 ?_); (case zl1 => walk_at "up"); (case zl2 => walk_at "up"); (case zl3 => (simp only [List.length_append, List.length_cons, List.length_nil]; decide)); intro p H' hp hs he))
local macro_rules | `(tactic| walk_at "z") => `(tactic| with_reducible refine z_orI ?_)
local macro_rules | `(tactic| walk_at "z") => `(tactic| with_reducible refine z_eqOI ?_)
local macro_rules | `(tactic| walk_at "z") => `(tactic| with_reducible refine z_a3J ?_)
local macro_rules | `(tactic| walk_at "z") => `(tactic| ((with_reducible refine' u_cell ?zl1 ?zl2 ?_); (case zl1 => walk_at "up"); (case zl2 => omega); intro cc))
local macro_rules | `(tactic| walk_at "z") => `(tactic| with_reducible refine z_p12 ?_)
local macro_rules | `(tactic| walk_at "z") => `(tactic| with_reducible refine z_p30 ?_)
theorem same00h {H H1 H2 : Hp} (h : Same H1 H2) (e : Same H H1) : Same H H2 := e.trans h
local macro_rules | `(tactic| walk_at "sm") => `(tactic| first
  | assumption
  | exact fun _ _ h => h
  | (refine' same00h (by assumption) ?zsm; case zsm => walk_at "sm"))
local macro_rules | `(tactic| walk_at "up") => `(tactic| first
  | assumption
  | (with_reducible refine' IsR.mono (by assumption) ?zup; case zup => walk_at "up")
  | (with_reducible refine' Same.at (by assumption) ?zup; case zup => walk_at "up")
  | (with_reducible refine' IsPool.mono (by assumption) ?zup; case zup => walk_at "up")
  | (with_reducible refine' Pr.mono (by assumption) ?zup; case zup => walk_at "up")
  | fail)
section
variable {P : Program} {w : World} {K : Frag} {mg : Str → Option Value} {base : Heap}
theorem ok_law_texts (L : Lw K mg) {fd : FuncData} (F : FunD K "_law_texts" "_law_texts" (defArgs s_law_texts) (defBody s_law_texts) (defScope s_law_texts) (df_law_texts.dvs K) (df_law_texts.kws K) (He.fAd K ("_law_texts", none)) fd) : FnOk P w K mg base (L2N.CX P w) 6 (He.fAd K ("_law_texts", none)) fd (["a", "b", "one", "two", "count"] : List Str) (sp5 (fs_txs K)) := by
  refine FunD.ok F sc_law_texts len5 (fun cdv A outer s H vs Q E hr h => ?_)
  obtain ⟨x, y, z, u, n, rfl, h⟩ := h
  refine ⟨_, (pss_cons (ps_set (i := 5) sc_law_texts.nd rfl (by first | exact Or.inl rfl | exact Or.inr rfl) (pe_c (c_law_low (K := K) L) hr (by decide) (L2N.takes_of rfl rfl rfl rfl) (pa_cons (pe_op (op_or2 o_rep2 (op_own (by rfl) L.sf_Ratio (c_RatioD_mulD (K := K) L) hr (by decide) passF)) (pe_ix (ix_seqK (K := K) rfl) (pv 2) pe_int (fun _ _ => rfl)) (pe_ix (ix_seqK (K := K) rfl) (pv 3) pe_int (fun _ _ => rfl))) (pa_cons (pe_op (op_or2 o_rep2 (op_own (by rfl) L.sf_Ratio (c_RatioD_mulD (K := K) L) hr (by decide) passF)) (pe_ix (ix_seqK (K := K) rfl) (pv 2) pe_int (fun _ _ => rfl)) (pe_ix (ix_seqK (K := K) rfl) (pv 3) pe_int (fun _ _ => rfl))) pa_nil))))
    (pss_cons (ps_if (PW.pt (pw_or (pt_not (pt_val (pe_c (c_law_written (K := K) L) hr (by decide) (L2N.takes_of rfl rfl rfl rfl) (pa_cons (pv 0) (pa_cons (pv 2) pa_nil))))) (pw_or1 (pt_not (pt_val (pe_c (c_law_written (K := K) L) hr (by decide) (L2N.takes_of rfl rfl rfl rfl) (pa_cons (pv 1) (pa_cons (pv 3) pa_nil)))))))) (pss_one (ps_ret pe_bl)) pss_nil)
    (pss_cons (ps_if (pt_not (pt_val (pe_c (c_law_written (K := K) L) hr (by decide) (L2N.takes_of rfl rfl rfl rfl) (pa_cons (pe_op (op_or2 o_rep2 (op_own (by rfl) L.sf_Ratio (c_RatioD_mulD (K := K) L) hr (by decide) passF)) (pv 0) (pv 1)) (pa_cons (pv 5) pa_nil))))) (pss_one (ps_ret pe_bl)) pss_nil)
    (pss_cons (ps_if (PW.pt (pw_or (pt_not (pt_val (pe_c (c_law_read (K := K) L) hr (by decide) (L2N.takes_of rfl rfl rfl rfl) (pa_cons (pv 2) pa_nil)))) (pw_or (pt_not (pt_val (pe_c (c_law_read (K := K) L) hr (by decide) (L2N.takes_of rfl rfl rfl rfl) (pa_cons (pv 3) pa_nil)))) (pw_or1 (pt_not (pt_val (pe_c (c_law_read (K := K) L) hr (by decide) (L2N.takes_of rfl rfl rfl rfl) (pa_cons (pv 5) pa_nil)))))))) (pss_one (ps_ret pe_bl)) pss_nil)
    (pss_cons (ps_if (PW.pt (pw_or (pt_not (pt_val (pe_c (c_law_long (K := K) L) hr (by decide) (L2N.takes_of rfl rfl rfl rfl) (pa_cons pe_int pa_nil)))) (pw_or (pt_not (pt_val (pe_c (c_law_long (K := K) L) hr (by decide) (L2N.takes_of rfl rfl rfl rfl) (pa_cons pe_int pa_nil)))) (pw_or1 (pt_not (pt_val (pe_c (c_law_long (K := K) L) hr (by decide) (L2N.takes_of rfl rfl rfl rfl) (pa_cons (pv 4) pa_nil)))))))) (pss_one (ps_ret pe_bl)) pss_nil)
    (pss_cons (ps_for (passes_of rfl) rfl (pi_listK (K := K) rfl (pe_op o_cat3 (pe_c (c_law_wrong (K := K) L) hr (by decide) (L2N.takes_of rfl rfl rfl rfl) (pa_cons (pv 2) pa_nil)) (pe_c (c_law_wrong (K := K) L) hr (by decide) (L2N.takes_of rfl rfl rfl rfl) (pa_cons (pv 3) pa_nil)))) (pg_name (i := 6) sc_law_texts.nd rfl (by first | exact Or.inl rfl | exact Or.inr rfl)) (pss_one (ps_if (pt_not (pt_val (pe_c (c_law_refused (K := K) L) hr (by decide) (L2N.takes_of rfl rfl rfl rfl) (pa_cons (pv 6) pa_nil)))) (pss_one (ps_ret pe_bl)) pss_nil)))
    (pss_one (ps_ret pe_bl)))))))), ?_⟩
  rw [show L2.start (["a", "b", "one", "two", "count", "product", "text"] : List Str) [x, y, z, u, n] = [some x, some y, some z, some u, some n, none, none] from rfl]
  obtain ⟨a, b, t, v, p, q, r, s, k, rfl, rfl, rfl, rfl, rfl, ⟨h1, t1, l1⟩, ⟨h2, t2, l2⟩, hk, hk2, kk⟩ := h
  have ne : q * s ≠ 0 := Int.mul_ne_zero (by have := l1.pos; omega) (by have := l2.pos; omega)
  have bqs : Bits 2200 (q * s) := l1.bq.mul l2.bq
  try dsimp only [List.set]
  walk_at "zz"
  refine z_repU0 l1.bp l2.bp (by omega) ?_
  try dsimp only [List.set]
  walk_at "zz"
  refine z_repU0 l1.bq l2.bq (by omega) ?_
  try dsimp only [List.set]
  walk_at "zz"
  refine ⟨_, _, rfl, _, _, 2200, rfl, rfl, ne, bqs, by decide, fun w G g hw => ?_⟩
  try dsimp only [List.set]
  walk_at "zz"
  refine ⟨_, _, rfl, a, t, p, q, rfl, rfl, IsR.mono (by walk_at "sm") h1, by walk_at "up", l1.lx, ?_⟩
  try dsimp only [List.set]
  walk_at "zz"
  refine ⟨_, _, rfl, b, v, r, s, rfl, rfl, IsR.mono (by walk_at "sm") h2, by walk_at "up", l2.lx, ?_⟩
  try dsimp only [List.set]
  walk_at "zz"
  refine z_own2R (IsR.mono (by walk_at "sm") h1) (IsR.mono (by walk_at "sm") h2) ?_
  refine ⟨_, _, rfl, a, b, p, q, r, s, rfl, rfl, IsR.mono (by walk_at "sm") h1, IsR.mono (by walk_at "sm") h2, l1, l2, fun c H1 s1 hc => ⟨⟨_, rfl⟩, ?_⟩⟩
  dsimp only at hc
  try dsimp only [List.set]
  walk_at "zz"
  refine ⟨_, _, rfl, c, w, _, _, rfl, rfl, hc, by walk_at "up", lo_mul l1 l2, ?_⟩
  try dsimp only [List.set]
  walk_at "zz"
  refine ⟨_, rfl, t, p, q, rfl, by walk_at "up", l1.lx, fun H2 s2 => ?_⟩
  try dsimp only [List.set]
  walk_at "zz"
  refine ⟨_, rfl, v, r, s, rfl, by walk_at "up", l2.lx, fun H3 s3 => ?_⟩
  try dsimp only [List.set]
  walk_at "zz"
  refine ⟨_, rfl, w, _, _, rfl, by walk_at "up", lo_mul l1 l2, fun H4 s4 => ?_⟩
  try dsimp only [List.set]
  walk_at "zz"
  refine ⟨_, rfl, 299, rfl, by decide, by decide, fun H5 s5 => ?_⟩
  try dsimp only [List.set]
  walk_at "zz"
  refine ⟨_, rfl, 300, rfl, by decide, by decide, fun H6 s6 => ?_⟩
  try dsimp only [List.set]
  walk_at "zz"
  refine ⟨_, rfl, k, rfl, hk, by omega, fun H7 s7 => ?_⟩
  try dsimp only [List.set]
  walk_at "zz"
  refine ⟨_, rfl, t, p, q, rfl, by walk_at "up", l1.lx, fun x1 H8 s8 e8 => ?_⟩
  try dsimp only [List.set]
  walk_at "zz"
  refine ⟨_, rfl, v, r, s, rfl, by walk_at "up", l2.lx, fun x2 H9 s9 e9 => ?_⟩
  try dsimp only [List.set]
  walk_at "zz"
  refine z_c3L (s9 _ _ e8) e9 (by rw [List.length_map, List.length_map]; show 24 + 24 ≤ 16777216; decide) (fun y1 HA hA sA eA => ?_)
  refine z_foV eA (fun i σ' H' => ∃ x6 : Option V, σ' = [some (.ref a), some (.ref b), some (.ref t), some (.ref v), some (.int ((k + 1 : Nat) : Int)), some (.ref w), x6] ∧ Same HA H') ⟨_, rfl, fun _ _ h => h⟩ (fun i σ' H' z => by obtain ⟨_, _, s⟩ := z; exact s _ _ eA) ?_ ?_
  · rintro i x σ' H' ex ⟨x6, rfl, sh⟩
    obtain ⟨u, rfl, hu1, hu2, hu3⟩ : ∃ u : List Nat, x = .str (SX.S u) ∧ S00.asc u ∧ S00.rf u = none ∧ u.length ≤ 100000 := by
      rcases List.mem_append.mp (List.mem_of_getElem? ex) with m | m
      · obtain ⟨u, mu, rfl⟩ := List.mem_map.mp m
        have l := l1.lx.ln2
        have := wrongs_len l.1 l.2.1 l.2.2.1 l.2.2.2.1 l.2.2.2.2 u mu
        have wb := wrongs_bad (by have := l1.pos; omega) u mu
        exact ⟨u, rfl, wb.1, wb.2, by omega⟩
      · obtain ⟨u, mu, rfl⟩ := List.mem_map.mp m
        have l := l2.lx.ln2
        have := wrongs_len l.1 l.2.1 l.2.2.1 l.2.2.2.1 l.2.2.2.2 u mu
        have wb := wrongs_bad (by have := l2.pos; omega) u mu
        exact ⟨u, rfl, wb.1, wb.2, by omega⟩
    try dsimp only [List.set]
    walk_at "zz"
    refine ⟨_, rfl, u, rfl, hu1, hu3, hu2, fun HB sB => ?_⟩
    try dsimp only [List.set]
    walk_at "zz"
    exact ⟨_, rfl, sh.trans sB⟩
  · rintro σ' H' ⟨x6, rfl, sh⟩
    try dsimp only [List.set]
    walk_at "zz"
    exact kk _ (by walk_at "sm")
theorem c_law_texts (L : Lw K mg) : Cal P w K mg base 6 "_law_texts" (sp5 (fs_txs K)) [] := by
  obtain ⟨fd, F⟩ := L.d_law_texts
  exact ⟨⟨_, fd, ["a", "b", "one", "two", "count"], [], ok_law_texts L F, L.g_law_texts, F.kp, F.bindsN (fun _ _ _ _ _ _ us hl => match us, hl with | [_, _, _, _, _], _ => rfl), .nil⟩⟩
theorem ok_law_fraction (L : Lw K mg) {fd : FuncData} (F : FunD K "_law_fraction" "_law_fraction" (defArgs s_law_fraction) (defBody s_law_fraction) (defScope s_law_fraction) (df_law_fraction.dvs K) (df_law_fraction.kws K) (He.fAd K ("_law_fraction", none)) fd) : FnOk P w K mg base (L2N.CX P w) 3 (He.fAd K ("_law_fraction", none)) fd (["script", "at", "size"] : List Str) (sp3 fs_frac) := by
  refine FunD.ok F sc_law_fraction len3 (fun cdv A outer s H vs Q E hr h => ?_)
  obtain ⟨x, y, z, rfl, h⟩ := h
  refine ⟨_, (pss_cons (ps_set (i := 3) sc_law_fraction.nd rfl (by first | exact Or.inl rfl | exact Or.inr rfl) (pe_c (c_law_cell (K := K) L) hr (by decide) (L2N.takes_of rfl rfl rfl rfl) (pa_cons (pv 0) (pa_cons (pe_op o_cat3 (pv 1) pe_int) pa_nil))))
    (pss_cons (ps_set (i := 4) sc_law_fraction.nd rfl (by first | exact Or.inl rfl | exact Or.inr rfl) (pe_ix (ix_seqK (K := K) rfl) (pe_lst (pa_cons (pe_un o_neg pe_int) (pa_cons pe_int (pa_cons pe_int (pa_cons (pe_un o_neg pe_int) (pa_cons pe_int (pa_cons pe_int (pa_cons (pe_un o_neg pe_int) (pa_cons pe_int pa_nil))))))))) (pe_c (c_law_mod (K := K) L) hr (by decide) (L2N.takes_of rfl rfl rfl rfl) (pa_cons (pe_c (c_law_cell (K := K) L) hr (by decide) (L2N.takes_of rfl rfl rfl rfl) (pa_cons (pv 0) (pa_cons (pe_op o_cat3 (pv 1) pe_int) pa_nil))) (pa_cons pe_int pa_nil))) (fun _ _ => rfl)))
    (pss_cons (ps_if (pt_cmpR o_lt (pv 2) pe_int (nomark _)) (pss_cons (ps_set (i := 5) sc_law_fraction.nd rfl (by first | exact Or.inl rfl | exact Or.inr rfl) (pe_ix (ix_seqK (K := K) rfl) (pe_lst (pa_cons pe_int (pa_cons pe_int (pa_cons pe_int (pa_cons pe_int (pa_cons (pe_op o_pow pe_int pe_int) (pa_cons (pe_op o_pow pe_int pe_int) (pa_cons (pe_op o_sub (pe_op o_pow pe_int pe_int) pe_int) pa_nil)))))))) (pv 2) (fun _ _ => rfl)))
    (pss_cons (ps_set (i := 6) sc_law_fraction.nd rfl (by first | exact Or.inl rfl | exact Or.inr rfl) (pe_c (c_law_signed (K := K) L) hr (by decide) (L2N.takes_of rfl rfl rfl rfl) (pa_cons (pe_op o_cat3 (pe_op o_cat3 (pe_c (c_law_cell (K := K) L) hr (by decide) (L2N.takes_of rfl rfl rfl rfl) (pa_cons (pv 0) (pa_cons (pv 1) pa_nil))) pe_int) (pe_op o_rep2 pe_int (pv 1))) (pa_cons (pv 5) pa_nil))))
    (pss_one (ps_set (i := 7) sc_law_fraction.nd rfl (by first | exact Or.inl rfl | exact Or.inr rfl) (pe_op o_cat3 pe_int (pe_c (c_law_mod (K := K) L) hr (by decide) (L2N.takes_of rfl rfl rfl rfl) (pa_cons (pe_op o_cat3 (pe_op o_cat3 (pe_c (c_law_cell (K := K) L) hr (by decide) (L2N.takes_of rfl rfl rfl rfl) (pa_cons (pv 0) (pa_cons (pe_op o_cat3 (pv 1) pe_int) pa_nil))) pe_int) (pv 1)) (pa_cons (pv 5) pa_nil)))))))) (pss_cons (ps_set (i := 8) sc_law_fraction.nd rfl (by first | exact Or.inl rfl | exact Or.inr rfl) (pe_op o_cat3 pe_int (pe_op o_rep2 pe_int (pe_c (c_law_mod (K := K) L) hr (by decide) (L2N.takes_of rfl rfl rfl rfl) (pa_cons (pe_op o_div (pv 3) pe_int) (pa_cons pe_int pa_nil))))))
    (pss_cons (ps_set (i := 9) sc_law_fraction.nd rfl (by first | exact Or.inl rfl | exact Or.inr rfl) (pe_op o_sub pe_int (pe_op o_rep2 pe_int (pe_c (c_law_mod (K := K) L) hr (by decide) (L2N.takes_of rfl rfl rfl rfl) (pa_cons (pe_op o_div (pv 3) pe_int) (pa_cons pe_int pa_nil))))))
    (pss_cons (ps_set (i := 6) sc_law_fraction.nd rfl (by first | exact Or.inl rfl | exact Or.inr rfl) (pe_op o_rep2 (pv 9) (pe_c (c_law_great (K := K) L) hr (by decide) (L2N.takes_of rfl rfl rfl rfl) (pa_cons (pe_c (c_law_cell (K := K) L) hr (by decide) (L2N.takes_of rfl rfl rfl rfl) (pa_cons (pv 0) (pa_cons (pv 1) pa_nil))) (pa_cons (pv 8) pa_nil)))))
    (pss_cons (ps_set (i := 7) sc_law_fraction.nd rfl (by first | exact Or.inl rfl | exact Or.inr rfl) (pe_c (c_law_great (K := K) L) hr (by decide) (L2N.takes_of rfl rfl rfl rfl) (pa_cons (pe_c (c_law_cell (K := K) L) hr (by decide) (L2N.takes_of rfl rfl rfl rfl) (pa_cons (pv 0) (pa_cons (pe_op o_cat3 (pv 1) pe_int) pa_nil))) (pa_cons (pv 8) pa_nil))))
    (pss_one (ps_if (pt_cmpR op_eq (pv 8) pe_int (nomark _)) (pss_one (ps_set (i := 4) sc_law_fraction.nd rfl (by first | exact Or.inl rfl | exact Or.inr rfl) (pe_op o_sub pe_int (pe_op o_rep2 pe_int (pe_c (c_law_mod (K := K) L) hr (by decide) (L2N.takes_of rfl rfl rfl rfl) (pa_cons (pe_c (c_law_cell (K := K) L) hr (by decide) (L2N.takes_of rfl rfl rfl rfl) (pa_cons (pv 0) (pa_cons (pe_op o_cat3 (pv 1) pe_int) pa_nil))) (pa_cons pe_int pa_nil))))))) pss_nil)))))))
    (pss_cons (ps_if (pt_cmpR op_eq (pe_c (c_law_mod (K := K) L) hr (by decide) (L2N.takes_of rfl rfl rfl rfl) (pa_cons (pv 3) (pa_cons pe_int pa_nil))) pe_int (nomark _)) (pss_one (ps_set (i := 6) sc_law_fraction.nd rfl (by first | exact Or.inl rfl | exact Or.inr rfl) pe_int)) pss_nil)
    (pss_one (ps_ret (pe_tup (pa_cons (pv 6) (pa_cons (pv 7) (pa_cons (pv 4) pa_nil)))))))))), ?_⟩
  rw [show L2.start (["script", "at", "size", "digit", "factor", "bound", "top", "bottom", "digits", "sign"] : List Str) [x, y, z] = [some x, some y, some z, none, none, none, none, none, none, none] from rfl]
  obtain ⟨c, at_, sz, rfl, rfl, rfl, hp, a0, a1, z0, z1, k⟩ := h
  try dsimp only [List.set]
  walk_at "zz"
  rename_i dg l1 H1 hl1 s1 e1 cf
  obtain ⟨f, ef, f0, f12⟩ := fac_at (i := cf % 8) (by omega) (by omega)
  refine z_ixL (SqL.of e1) ef ?_
  try dsimp only [List.set]
  walk_at "zz"
  refine z_d2 (fun c7 => ?_) (fun c7 => ?_)
  · try dsimp only [List.set]
    walk_at "zz"
    rename_i l2 H2 hl2 s2 e2
    obtain ⟨b, eb, b1, b2⟩ := bnd_at (i := sz) z0 c7
    refine z_ixL (SqL.of e2) eb ?_
    try dsimp only [List.set]
    walk_at "zz"
    refine ⟨_, _, rfl, _, b, rfl, rfl, b1, by rw [show (10 : Int) ^ 31 = 10000000000000000000000000000000 by decide +kernel]; exact b2, fun v v0 v1 => ?_⟩
    try dsimp only [List.set]
    walk_at "zz"
    rename_i cb
    have m0 := Int.emod_nonneg (cb + 2 + at_) (show b ≠ 0 by omega)
    have m1 := Int.emod_lt_of_pos (cb + 2 + at_) b1
    generalize (cb + 2 + at_) % b = m at *
    try dsimp only [List.set]
    walk_at "zz"
    refine z_d2 (fun c5 => ?_) (fun c5 => ?_)
    · try dsimp only [List.set]
      walk_at "zz"
      refine k _ _ _ _ _ (by walk_at "sm") (by walk_at "up") ⟨b0, bb (b := b) (by omega) (by omega) b2, f0, f12⟩ (by omega)
    · try dsimp only [List.set]
      walk_at "zz"
      refine k _ _ _ _ _ (by walk_at "sm") (by walk_at "up") ⟨bb v0 v1 b2, bb (b := b) (by omega) (by omega) b2, f0, f12⟩ (by omega)
  · try dsimp only [List.set]
    walk_at "zz"
    obtain ⟨kk, hkk, hk9⟩ : ∃ kk : Nat, 298 + 2 * (dg / 6 % 2) = ((kk + 1 : Nat) : Int) ∧ kk + 1 ≤ 300 := ⟨(297 + 2 * (dg / 6 % 2)).toNat, by omega, by omega⟩
    rw [hkk]
    refine ⟨_, _, rfl, _, kk, rfl, rfl, by omega, fun v1 v1a v1b => ?_⟩
    obtain ⟨w1, w2⟩ := bg3 hk9 v1a v1b
    have bs : Bits 1000 ((1 - 2 * (dg / 12 % 2)) * v1) := by
      rcases (show dg / 12 % 2 = 0 ∨ dg / 12 % 2 = 1 by omega) with h | h <;> rw [h]
      · rw [show (1 - 2 * 0 : Int) * v1 = v1 by omega]
        exact w1
      · rw [show (1 - 2 * 1 : Int) * v1 = -v1 by omega]
        exact w2
    try dsimp only [List.set]
    walk_at "zz"
    refine ⟨_, _, rfl, _, kk, rfl, rfl, by omega, fun v2 v2a v2b => ?_⟩
    obtain ⟨w3, w4⟩ := bg3 hk9 v2a v2b
    try dsimp only [List.set]
    walk_at "zz"
    refine z_d2 (fun c3 => ?_) (fun c3 => ?_)
    · try dsimp only [List.set]
      walk_at "zz"
      refine z_d2 (fun c5 => ?_) (fun c5 => ?_)
      · try dsimp only [List.set]
        walk_at "zz"
        refine k _ _ _ _ _ (by walk_at "sm") (by walk_at "up") ⟨b0, w3, (by omega), (by omega)⟩ v2a
      · try dsimp only [List.set]
        walk_at "zz"
        refine k _ _ _ _ _ (by walk_at "sm") (by walk_at "up") ⟨bs, w3, (by omega), (by omega)⟩ v2a
    · try dsimp only [List.set]
      walk_at "zz"
      refine z_d2 (fun c5 => ?_) (fun c5 => ?_)
      · try dsimp only [List.set]
        walk_at "zz"
        refine k _ _ _ _ _ (by walk_at "sm") (by walk_at "up") ⟨b0, w3, f0, f12⟩ v2a
      · try dsimp only [List.set]
        walk_at "zz"
        refine k _ _ _ _ _ (by walk_at "sm") (by walk_at "up") ⟨bs, w3, f0, f12⟩ v2a
theorem c_law_fraction (L : Lw K mg) : Cal P w K mg base 3 "_law_fraction" (sp3 fs_frac) [] := by
  obtain ⟨fd, F⟩ := L.d_law_fraction
  exact ⟨⟨_, fd, ["script", "at", "size"], [], ok_law_fraction L F, L.g_law_fraction, F.kp, F.bindsN (fun _ _ _ _ _ _ us hl => match us, hl with | [_, _, _], _ => rfl), .nil⟩⟩
theorem ok_law_other (L : Lw K mg) {fd : FuncData} (F : FunD K "_law_other" "_law_other" (defArgs s_law_other) (defBody s_law_other) (defScope s_law_other) (df_law_other.dvs K) (df_law_other.kws K) (He.fAd K ("_law_other", none)) fd) : FnOk P w K mg base (L2N.CX P w) 4 (He.fAd K ("_law_other", none)) fd (["script", "first", "size"] : List Str) (sp3 fs_oth) := by
  refine FunD.ok F sc_law_other len3 (fun cdv A outer s H vs Q E hr h => ?_)
  obtain ⟨x, y, z, rfl, h⟩ := h
  refine ⟨_, (pss_cons (ps_set (i := 3) sc_law_other.nd rfl (by first | exact Or.inl rfl | exact Or.inr rfl) (pe_c (c_law_mod (K := K) L) hr (by decide) (L2N.takes_of rfl rfl rfl rfl) (pa_cons (pe_op o_div (pe_c (c_law_cell (K := K) L) hr (by decide) (L2N.takes_of rfl rfl rfl rfl) (pa_cons (pv 0) (pa_cons pe_int pa_nil))) pe_int) (pa_cons pe_int pa_nil))))
    (pss_cons (ps_set (i := 4) sc_law_other.nd rfl (by first | exact Or.inl rfl | exact Or.inr rfl) (pe_c (c_law_fraction (K := K) L) hr (by decide) (L2N.takes_of rfl rfl rfl rfl) (pa_cons (pv 0) (pa_cons pe_int (pa_cons (pv 2) pa_nil)))))
    (pss_cons (ps_set (i := 5) sc_law_other.nd rfl (by first | exact Or.inl rfl | exact Or.inr rfl) (pe_ix (ix_seqK (K := K) rfl) (pv 4) pe_int (fun _ _ => rfl)))
    (pss_cons (ps_if (pt_cmpR op_eq (pv 2) pe_int (nomark _)) (pss_one (ps_set (i := 5) sc_law_other.nd rfl (by first | exact Or.inl rfl | exact Or.inr rfl) (pe_un o_neg (pe_ix (ix_seqK (K := K) rfl) (pv 1) pe_int (fun _ _ => rfl))))) pss_nil)
    (pss_cons (ps_set (i := 6) sc_law_other.nd rfl (by first | exact Or.inl rfl | exact Or.inr rfl) pe_int)
    (pss_cons (ps_if (pt_cmpR o_lt (pe_ix (ix_seqK (K := K) rfl) (pv 1) pe_int (fun _ _ => rfl)) pe_int (nomark _)) (pss_one (ps_set (i := 6) sc_law_other.nd rfl (by first | exact Or.inl rfl | exact Or.inr rfl) (pe_un o_neg pe_int))) pss_nil)
    (pss_cons (ps_if (pt_cmpR op_eq (pv 3) pe_int (nomark _)) (pss_one (ps_ret (pe_tup (pa_cons (pe_ix (ix_seqK (K := K) rfl) (pv 1) pe_int (fun _ _ => rfl)) (pa_cons (pe_ix (ix_seqK (K := K) rfl) (pv 1) pe_int (fun _ _ => rfl)) (pa_cons (pv 5) pa_nil)))))) pss_nil)
    (pss_cons (ps_if (pt_cmpR op_eq (pv 3) pe_int (nomark _)) (pss_one (ps_ret (pe_tup (pa_cons (pe_un o_neg (pe_ix (ix_seqK (K := K) rfl) (pv 1) pe_int (fun _ _ => rfl))) (pa_cons (pe_ix (ix_seqK (K := K) rfl) (pv 1) pe_int (fun _ _ => rfl)) (pa_cons (pv 5) pa_nil)))))) pss_nil)
    (pss_cons (ps_if (pt_cmpR op_eq (pv 3) pe_int (nomark _)) (pss_one (ps_ret (pe_tup (pa_cons (pe_op o_sub (pe_ix (ix_seqK (K := K) rfl) (pv 1) pe_int (fun _ _ => rfl)) (pv 6)) (pa_cons (pe_ix (ix_seqK (K := K) rfl) (pv 1) pe_int (fun _ _ => rfl)) (pa_cons (pv 5) pa_nil)))))) pss_nil)
    (pss_cons (ps_if (pt_cmpR op_eq (pv 3) pe_int (nomark _)) (pss_one (ps_ret (pe_tup (pa_cons pe_int (pa_cons (pe_ix (ix_seqK (K := K) rfl) (pv 1) pe_int (fun _ _ => rfl)) (pa_cons (pv 5) pa_nil)))))) pss_nil)
    (pss_cons (ps_if (PW.pt (pw_and (pt_cmpR op_eq (pv 3) pe_int (nomark _)) (pw_and1 (pt_cmpR op_ne (pe_ix (ix_seqK (K := K) rfl) (pv 1) pe_int (fun _ _ => rfl)) pe_int (nomark _))))) (pss_one (ps_ret (pe_tup (pa_cons (pe_ix (ix_seqK (K := K) rfl) (pv 1) pe_int (fun _ _ => rfl)) (pa_cons (pe_ix (ix_seqK (K := K) rfl) (pv 1) pe_int (fun _ _ => rfl)) (pa_cons (pv 5) pa_nil)))))) pss_nil)
    (pss_one (ps_ret (pv 4)))))))))))))), ?_⟩
  rw [show L2.start (["script", "first", "size", "kind", "free", "factor", "step"] : List Str) [x, y, z] = [some x, some y, some z, none, none, none, none] from rfl]
  obtain ⟨c, t0, sz, p0, q0, f0, rfl, rfl, rfl, hp, ht, hf, q1, z0, z1, k⟩ := h
  have g0 := hf.f0
  have g1 := hf.f1
  try dsimp only [List.set]
  walk_at "zz"
  rename_i cc
  have kb : 0 ≤ cc / 8 % 6 ∧ cc / 8 % 6 < 6 := by omega
  generalize cc / 8 % 6 = kd at *
  refine ⟨_, _, _, rfl, c, 5, sz, rfl, rfl, rfl, hp, by decide, by decide, z0, z1, fun t1 p1 r1 f1 H1 s1 e1 hg hr1 => ?_⟩
  have l0 := hg.f0
  have l1 := hg.f1
  try dsimp only [List.set]
  walk_at "zz"
  refine z_d2 (fun c7 => ?_) (fun c7 => ?_)
  · try dsimp only [List.set]
    walk_at "zz"
    refine z_d2 (fun cn => ?_) (fun cn => ?_)
    · try dsimp only [List.set]
      walk_at "zz"
      refine z_d2 (fun k1 => ?_) (fun k1 => ?_)
      · try dsimp only [List.set]
        walk_at "zz"
        exact k _ _ _ _ _ (by walk_at "sm") (by walk_at "up") ⟨hf.bx, hf.bY, (by omega), (by omega)⟩ (by omega)
      try dsimp only [List.set]
      walk_at "zz"
      refine z_d2 (fun k2 => ?_) (fun k2 => ?_)
      · try dsimp only [List.set]
        walk_at "zz"
        exact k _ _ _ _ _ (by walk_at "sm") (by walk_at "up") ⟨hf.bx.neg, hf.bY, (by omega), (by omega)⟩ (by omega)
      try dsimp only [List.set]
      walk_at "zz"
      refine z_d2 (fun k3 => ?_) (fun k3 => ?_)
      · try dsimp only [List.set]
        walk_at "zz"
        exact k _ _ _ _ _ (by walk_at "sm") (by walk_at "up") ⟨((bst hf.bx).2 cn), hf.bY, (by omega), (by omega)⟩ (by omega)
      try dsimp only [List.set]
      walk_at "zz"
      refine z_d2 (fun k4 => ?_) (fun k4 => ?_)
      · try dsimp only [List.set]
        walk_at "zz"
        exact k _ _ _ _ _ (by walk_at "sm") (by walk_at "up") ⟨b0, hf.bY, (by omega), (by omega)⟩ (by omega)
      try dsimp only [List.set]
      walk_at "zz"
      refine z_d2 (fun k5 => ?_) (fun k5 => ?_)
      · try dsimp only [List.set]
        walk_at "zz"
        refine z_d2 (fun c0 => ?_) (fun c0 => ?_)
        · try dsimp only [List.set]
          walk_at "zz"
          exact k _ _ _ _ _ (by walk_at "sm") (by walk_at "up") hg (by omega)
        · try dsimp only [List.set]
          walk_at "zz"
          exact k _ _ _ _ _ (by walk_at "sm") (by walk_at "up") ⟨hf.bY, hf.bx, (by omega), (by omega)⟩ c0
      · try dsimp only [List.set]
        walk_at "zz"
        exact k _ _ _ _ _ (by walk_at "sm") (by walk_at "up") hg (by omega)
    · try dsimp only [List.set]
      walk_at "zz"
      refine z_d2 (fun k1 => ?_) (fun k1 => ?_)
      · try dsimp only [List.set]
        walk_at "zz"
        exact k _ _ _ _ _ (by walk_at "sm") (by walk_at "up") ⟨hf.bx, hf.bY, (by omega), (by omega)⟩ (by omega)
      try dsimp only [List.set]
      walk_at "zz"
      refine z_d2 (fun k2 => ?_) (fun k2 => ?_)
      · try dsimp only [List.set]
        walk_at "zz"
        exact k _ _ _ _ _ (by walk_at "sm") (by walk_at "up") ⟨hf.bx.neg, hf.bY, (by omega), (by omega)⟩ (by omega)
      try dsimp only [List.set]
      walk_at "zz"
      refine z_d2 (fun k3 => ?_) (fun k3 => ?_)
      · try dsimp only [List.set]
        walk_at "zz"
        exact k _ _ _ _ _ (by walk_at "sm") (by walk_at "up") ⟨((bst hf.bx).1 (by omega)), hf.bY, (by omega), (by omega)⟩ (by omega)
      try dsimp only [List.set]
      walk_at "zz"
      refine z_d2 (fun k4 => ?_) (fun k4 => ?_)
      · try dsimp only [List.set]
        walk_at "zz"
        exact k _ _ _ _ _ (by walk_at "sm") (by walk_at "up") ⟨b0, hf.bY, (by omega), (by omega)⟩ (by omega)
      try dsimp only [List.set]
      walk_at "zz"
      refine z_d2 (fun k5 => ?_) (fun k5 => ?_)
      · try dsimp only [List.set]
        walk_at "zz"
        refine z_d2 (fun c0 => ?_) (fun c0 => ?_)
        · try dsimp only [List.set]
          walk_at "zz"
          exact k _ _ _ _ _ (by walk_at "sm") (by walk_at "up") hg (by omega)
        · try dsimp only [List.set]
          walk_at "zz"
          exact k _ _ _ _ _ (by walk_at "sm") (by walk_at "up") ⟨hf.bY, hf.bx, (by omega), (by omega)⟩ c0
      · try dsimp only [List.set]
        walk_at "zz"
        exact k _ _ _ _ _ (by walk_at "sm") (by walk_at "up") hg (by omega)
  · try dsimp only [List.set]
    walk_at "zz"
    refine z_d2 (fun cn => ?_) (fun cn => ?_)
    · try dsimp only [List.set]
      walk_at "zz"
      refine z_d2 (fun k1 => ?_) (fun k1 => ?_)
      · try dsimp only [List.set]
        walk_at "zz"
        exact k _ _ _ _ _ (by walk_at "sm") (by walk_at "up") ⟨hf.bx, hf.bY, l0, l1⟩ (by omega)
      try dsimp only [List.set]
      walk_at "zz"
      refine z_d2 (fun k2 => ?_) (fun k2 => ?_)
      · try dsimp only [List.set]
        walk_at "zz"
        exact k _ _ _ _ _ (by walk_at "sm") (by walk_at "up") ⟨hf.bx.neg, hf.bY, l0, l1⟩ (by omega)
      try dsimp only [List.set]
      walk_at "zz"
      refine z_d2 (fun k3 => ?_) (fun k3 => ?_)
      · try dsimp only [List.set]
        walk_at "zz"
        exact k _ _ _ _ _ (by walk_at "sm") (by walk_at "up") ⟨((bst hf.bx).2 cn), hf.bY, l0, l1⟩ (by omega)
      try dsimp only [List.set]
      walk_at "zz"
      refine z_d2 (fun k4 => ?_) (fun k4 => ?_)
      · try dsimp only [List.set]
        walk_at "zz"
        exact k _ _ _ _ _ (by walk_at "sm") (by walk_at "up") ⟨b0, hf.bY, l0, l1⟩ (by omega)
      try dsimp only [List.set]
      walk_at "zz"
      refine z_d2 (fun k5 => ?_) (fun k5 => ?_)
      · try dsimp only [List.set]
        walk_at "zz"
        refine z_d2 (fun c0 => ?_) (fun c0 => ?_)
        · try dsimp only [List.set]
          walk_at "zz"
          exact k _ _ _ _ _ (by walk_at "sm") (by walk_at "up") hg (by omega)
        · try dsimp only [List.set]
          walk_at "zz"
          exact k _ _ _ _ _ (by walk_at "sm") (by walk_at "up") ⟨hf.bY, hf.bx, l0, l1⟩ c0
      · try dsimp only [List.set]
        walk_at "zz"
        exact k _ _ _ _ _ (by walk_at "sm") (by walk_at "up") hg (by omega)
    · try dsimp only [List.set]
      walk_at "zz"
      refine z_d2 (fun k1 => ?_) (fun k1 => ?_)
      · try dsimp only [List.set]
        walk_at "zz"
        exact k _ _ _ _ _ (by walk_at "sm") (by walk_at "up") ⟨hf.bx, hf.bY, l0, l1⟩ (by omega)
      try dsimp only [List.set]
      walk_at "zz"
      refine z_d2 (fun k2 => ?_) (fun k2 => ?_)
      · try dsimp only [List.set]
        walk_at "zz"
        exact k _ _ _ _ _ (by walk_at "sm") (by walk_at "up") ⟨hf.bx.neg, hf.bY, l0, l1⟩ (by omega)
      try dsimp only [List.set]
      walk_at "zz"
      refine z_d2 (fun k3 => ?_) (fun k3 => ?_)
      · try dsimp only [List.set]
        walk_at "zz"
        exact k _ _ _ _ _ (by walk_at "sm") (by walk_at "up") ⟨((bst hf.bx).1 (by omega)), hf.bY, l0, l1⟩ (by omega)
      try dsimp only [List.set]
      walk_at "zz"
      refine z_d2 (fun k4 => ?_) (fun k4 => ?_)
      · try dsimp only [List.set]
        walk_at "zz"
        exact k _ _ _ _ _ (by walk_at "sm") (by walk_at "up") ⟨b0, hf.bY, l0, l1⟩ (by omega)
      try dsimp only [List.set]
      walk_at "zz"
      refine z_d2 (fun k5 => ?_) (fun k5 => ?_)
      · try dsimp only [List.set]
        walk_at "zz"
        refine z_d2 (fun c0 => ?_) (fun c0 => ?_)
        · try dsimp only [List.set]
          walk_at "zz"
          exact k _ _ _ _ _ (by walk_at "sm") (by walk_at "up") hg (by omega)
        · try dsimp only [List.set]
          walk_at "zz"
          exact k _ _ _ _ _ (by walk_at "sm") (by walk_at "up") ⟨hf.bY, hf.bx, l0, l1⟩ c0
      · try dsimp only [List.set]
        walk_at "zz"
        exact k _ _ _ _ _ (by walk_at "sm") (by walk_at "up") hg (by omega)
theorem c_law_other (L : Lw K mg) : Cal P w K mg base 4 "_law_other" (sp3 fs_oth) [] := by
  obtain ⟨fd, F⟩ := L.d_law_other
  exact ⟨⟨_, fd, ["script", "first", "size"], [], ok_law_other L F, L.g_law_other, F.kp, F.bindsN (fun _ _ _ _ _ _ us hl => match us, hl with | [_, _, _], _ => rfl), .nil⟩⟩
end
end T
set_option maxHeartbeats 4000000
namespace T
open PySem PySem.Spec PyProof.Rows L2 Z
theorem u_mkZ {K : Frag} {H : Hp} {Q : VK} {E : XK} {n d : Int} (hd : d ≠ 0) (hb : Bits 8999 d) (k : ∀ p H', Same H H' → IsR K H' p (rt n d) (rb n d) → Q (.ref p) H') :
    zMk (He.ga K "Ratio") (sp3 (fs_rinit K)) [] E [.int n, .int d] H Q := z_mkR hd hb k
def zMkN (C : Addr) (n m : Nat) (sp : Sp) (gV : List V → List V → List V) (E : XK) (vs zs : List V) (H : Hp) (Q : VK) : Prop := vs.length = n ∧ zs.length = m ∧
  ∀ x dx, H x = none → H dx = none → dx ≠ x → sp (gV (.ref x :: vs) zs) (upd (upd H dx (.own x)) x (.ins C dx [])) (fun v H3 => v = .non ∧ Q (.ref x) H3) E
theorem z_mkn {C : Addr} {n m : Nat} {sp : Sp} {gV : List V → List V → List V} {E : XK} {t tk : TA} {σ : L2.St} {H : Hp} {Q : VK} (q : t σ H fun vs H1 => tk σ H1 fun zs H2 => zMkN C n m sp gV E vs zs H2 Q) : tMakeN C n m sp gV E t tk σ H Q := q
theorem u_mkN {K : Frag} {H : Hp} {Q : VK} {E : XK} {n d : Int} {ks : List Str} (hk : ks.length = 2) (hd : d ≠ 0) (hb : Bits 8999 d) (k : ∀ p H', Same H H' → IsR K H' p (rt n d) (rb n d) → Q (.ref p) H') :
    zMkN (He.ga K "Ratio") 0 ks.length (sp3 (fs_rinit K)) (fun vs zs => vs ++ zs.reverse) E [] [.int d, .int n] H Q := ⟨rfl, by rw [hk]; rfl, z_mkR hd hb k⟩
theorem asc_rep {n : Nat} : S00.asc (List.replicate n 55) := fun c m => by
  have := List.eq_of_mem_replicate m
  omega
theorem fa_bits {f : Int} (h : -12 ≤ f ∧ f ≤ 12) : Bits 4 f := Bits.small (n := 4) (by show -(16 : Int) < _; omega) (by show _ < (16 : Int); omega)
theorem lo_of {x y : Int} (hx : Bits 1000 x) (hy : Bits 1000 y) (h : y ≠ 0) : Lo (rt x y) (rb x y) := by
  obtain ⟨a, b, _⟩ := rt_specN (n := x) h
  obtain ⟨c, d⟩ := rt_bits h hx hy
  exact ⟨a, b, c.up (by decide), d.up (by decide)⟩
local macro_rules | `(tactic| walk_at "up") => `(tactic| first
  | assumption
  | (refine' IsR.mono (by assumption) ?zup; case zup => walk_at "up")
  | (refine' IsE.mono (by assumption) ?zup; case zup => walk_at "up")
  | (refine' Same.at (by assumption) ?zup; case zup => walk_at "up")
  | (refine' SqL.of ?zup; case zup => walk_at "up")
  | (refine' L2.Same.seq (by assumption) ?zup; case zup => walk_at "up"))
local macro_rules | `(tactic| walk_at "z") => `(tactic| first
  | ((with_reducible refine' z_var ?zvh ?_); (case zvh => exact rfl))
  | with_reducible refine z_c ?_
  | with_reducible refine z_cons ?_
  | with_reducible refine z_nil ?_
  | with_reducible refine z_op ?_
  | with_reducible refine z_nx ?_
  | with_reducible refine z_seq ?_
  | with_reducible refine z_asg ?_
  | with_reducible refine z_asgG ?_
  | with_reducible refine z_call ?_
  | with_reducible refine z_sq0 ?_
  | with_reducible refine z_sq1 ?_
  | with_reducible refine z_ifS ?_
  | with_reducible refine z_test ?_
  | with_reducible refine z_tb ?_
  | with_reducible refine z_bl ?_
  | with_reducible refine z_blI ?_
  | with_reducible refine z_ret ?_
  | with_reducible refine z_rt ?_
  | with_reducible refine z_T ?_
  | with_reducible refine z_F ?_
  | with_reducible refine z_add ?_
  | with_reducible refine z_sub ?_
  | with_reducible refine z_neg ?_
  | with_reducible refine z_un ?_
  | with_reducible refine z_eqI ?_
  | with_reducible refine z_neI ?_
  | with_reducible refine z_lt ?_
  | with_reducible refine z_le ?_
  | with_reducible refine z_gt ?_
  | with_reducible refine z_ge ?_
  | with_reducible refine z_not ?_
  | with_reducible refine z_and ?_
  | with_reducible refine z_or ?_
  | with_reducible refine z_andV ?_
  | with_reducible refine z_orV ?_
  | with_reducible refine z_notV ?_
  | with_reducible refine z_if ?_
  | with_reducible refine z_cb ?_
  | with_reducible refine z_int1 ?_
  | with_reducible refine z_intb ?_
  | with_reducible refine z_abs ?_
  | with_reducible refine z_gcd ?_
  | with_reducible refine z_isi_ii ?_
  | with_reducible refine z_isi_ib ?_
  | with_reducible refine z_next ?_
  | with_reducible refine z_drop ?_
  | with_reducible refine z_par ?_
  | with_reducible refine z_par2 ?_
  | with_reducible refine z_tupN ?_
  | with_reducible refine z_lstN ?_
  | ((with_reducible refine' z_nt ?zl1 ?_); (case zl1 => exact Nat.le_of_ble_eq_true rfl); intro p H' hp hs he)
  | ((with_reducible refine' z_gtup ?zl1 ?zl2 ?_); (case zl1 => walk_at "up"); (case zl2 => exact rfl))
  | with_reducible refine z_bk ?_
  | with_reducible refine z_ct ?_
  | with_reducible refine z_break ?_
  | with_reducible refine z_cont ?_
  | with_reducible refine z_retN ?_
  | with_reducible refine z_nn ?_
  | with_reducible refine z_mk ?_
  | with_reducible refine z_gn ?_
  | with_reducible refine z_gcons ?_
  | with_reducible refine z_gnil ?_
  | with_reducible refine z_mt ?_
  | with_reducible refine z_mko ?_
  | with_reducible refine z_for2 ?_
  | with_reducible refine z_ownI ?_
  | ((with_reducible refine' z_lenL ?zl1 ?_); (case zl1 => walk_at "up"))
  | ((with_reducible refine' z_ixT ?zl1 ?zl2 ?_); (case zl1 => walk_at "up"); (case zl2 => exact rfl))
  | ((with_reducible refine' z_mulL ?zl1 ?zl2 ?_); (case zl1 => omega); (case zl2 => omega))
  | ((with_reducible refine' z_mulR ?zl1 ?zl2 ?_); (case zl1 => omega); (case zl2 => omega))
  | ((with_reducible refine' z_divS ?zl1 ?zl2 ?_); (case zl1 => omega); (case zl2 => omega))
  | ((with_reducible refine' z_mulW ?zl1 ?zl2 ?zl3 ?zl4 ?_); (case zl1 => omega); (case zl2 => omega); (case zl3 => omega); (case zl4 => omega))
  | ((with_reducible refine' z_divW ?zl1 ?zl2 ?_); (case zl1 => omega); (case zl2 => omega)))
local macro_rules | `(tactic| walk_at "zz") => `(tactic| repeat (walk_at "z"))
local macro_rules | `(tactic| walk_at "z") => `(tactic| with_reducible refine z_lstN ?_)
local macro_rules | `(tactic| walk_at "z") => `(tactic| with_reducible refine z_p6 ?_)
local macro_rules | `(tactic| walk_at "z") => `(tactic| with_reducible refine z_p12 ?_)
local macro_rules | `(tactic| walk_at "z") => `(tactic| with_reducible refine z_p13 ?_)
local macro_rules | `(tactic| walk_at "z") => `(tactic| with_reducible refine z_calln ?_)
local macro_rules | `(tactic| walk_at "z") => `(tactic| with_reducible refine z_xfS ?_)
local macro_rules | `(tactic| walk_at "z") => `(tactic| with_reducible refine z_lcS ?_)
local macro_rules | `(tactic| walk_at "z") => `(tactic| with_reducible refine z_lcRS ?_)
local macro_rules | `(tactic| walk_at "z") => `(tactic| with_reducible refine z_lcZS ?_)
local macro_rules | `(tactic| walk_at "z") => `(tactic| with_reducible refine z_foS ?_)
local macro_rules | `(tactic| walk_at "z") => `(tactic| with_reducible refine z_for1 ?_)
local macro_rules | `(tactic| walk_at "z") => `(tactic| with_reducible refine z_tsl ?_)
local macro_rules | `(tactic| walk_at "z") => `(tactic| with_reducible refine z_np ?_)
local macro_rules | `(tactic| walk_at "z") => `(tactic| with_reducible refine z_pt ?_)
local macro_rules | `(tactic| walk_at "z") => `(tactic| with_reducible refine z_pti ?_)
local macro_rules | `(tactic| walk_at "z") => `(tactic| with_reducible refine z_catI ?_)
local macro_rules | `(tactic| walk_at "z") => `(tactic| with_reducible refine z_isNI ?_)
local macro_rules | `(tactic| walk_at "z") => `(tactic| with_reducible refine z_isNN ?_)
local macro_rules | `(tactic| walk_at "z") => `(tactic| with_reducible refine z_notNI ?_)
local macro_rules | `(tactic| walk_at "z") => `(tactic| with_reducible refine z_notNN ?_)
local macro_rules | `(tactic| walk_at "z") => `(tactic| with_reducible refine z_gsub ?_)
local macro_rules | `(tactic| walk_at "z") => `(tactic| with_reducible refine z_isNb ?_)
local macro_rules | `(tactic| walk_at "z") => `(tactic| with_reducible refine z_notNb ?_)
local macro_rules | `(tactic| walk_at "z") => `(tactic| ((with_reducible refine' z_nlR ?zl1 ?_); (case zl1 => exact Nat.le_of_ble_eq_true rfl); intro p H' hp hs he))
local macro_rules | `(tactic| walk_at "z") => `(tactic| ((with_reducible refine' z_repR ?zl1 ?zl2 ?_); (case zl1 => omega); (case zl2 => omega)))
local macro_rules | `(tactic| walk_at "z") => `(tactic| ((with_reducible refine' z_repL ?zl1 ?zl2 ?_); (case zl1 => omega); (case zl2 => omega)))
local macro_rules | `(tactic| walk_at "z") => `(tactic| ((with_reducible refine' z_lenLst ?zl1 ?_); (case zl1 => walk_at "up")))
local macro_rules | `(tactic| walk_at "z") => `(tactic| ((with_reducible refine' z_cat ?zl1 ?zl2 ?zl3 ?_); (case zl1 => walk_at "up"); (case zl2 => walk_at "up"); (case zl3 => (simp only [List.length_map, List.length_cons, List.length_nil, List.length_append, List.length_replicate]; omega)); intro p H' hp hs he))
local macro_rules | `(tactic| walk_at "z") => `(tactic| with_reducible refine z_sfl ?_)
local macro_rules | `(tactic| walk_at "z") => `(tactic| with_reducible refine z_lcES ?_)
local macro_rules | `(tactic| walk_at "z") => `(tactic| with_reducible refine z_lcMS ?_)
local macro_rules | `(tactic| walk_at "z") => `(tactic| with_reducible refine z_foES ?_)
local macro_rules | `(tactic| walk_at "z") => `(tactic| with_reducible refine z_fo3S ?_)
local macro_rules | `(tactic| walk_at "z") => `(tactic| with_reducible refine z_sta ?_)
local macro_rules | `(tactic| walk_at "z") => `(tactic| with_reducible refine z_sta1 ?_)
local macro_rules | `(tactic| walk_at "z") => `(tactic| ((with_reducible refine' z_fldt ?zc1 ?zc2 ?zl1 ?zl2 ?_); (case zc1 => exact Lw.cl_Ratio (by assumption)); (case zc2 => exact Lw.na_Ratio_top (by assumption)); (case zl1 => exact rfl); (case zl2 => walk_at "up")))
local macro_rules | `(tactic| walk_at "z") => `(tactic| ((with_reducible refine' z_fldb ?zc1 ?zc2 ?zl1 ?zl2 ?_); (case zc1 => exact Lw.cl_Ratio (by assumption)); (case zc2 => exact Lw.na_Ratio_bottom (by assumption)); (case zl1 => exact rfl); (case zl2 => walk_at "up")))
local macro_rules | `(tactic| walk_at "z") => `(tactic| with_reducible refine z_c3I ?_)
local macro_rules | `(tactic| walk_at "z") => `(tactic| with_reducible refine z_r2I ?_)
local macro_rules | `(tactic| walk_at "z") => `(tactic| with_reducible refine z_for3 ?_)
local macro_rules | `(tactic| walk_at "z") => `(tactic| with_reducible refine z_tbits ?_)
local macro_rules | `(tactic| walk_at "z") => `(tactic| with_reducible refine z_tbi ?_)
local macro_rules | `(tactic| walk_at "z") => `(tactic| ((with_reducible refine' u_mod ?zl1 ?_); (case zl1 => omega)))
local macro_rules | `(tactic| walk_at "z") => `(tactic| with_reducible refine u_who ?_)
local macro_rules | `(tactic| walk_at "z") => `(tactic| with_reducible refine z_asg2 ?_)
local macro_rules | `(tactic| walk_at "z") => `(tactic| with_reducible refine z_c3S (by simp only [List.length_append, List.length_cons, List.length_nil]; omega) ?_)
local macro_rules | `(tactic| walk_at "z") => `(tactic| with_reducible refine z_tm0 ?_)
local macro_rules | `(tactic| walk_at "z") => `(tactic| with_reducible refine z_tm1 ?_)
local macro_rules | `(tactic| walk_at "z") => `(tactic| with_reducible refine z_isS ?_)
local macro_rules | `(tactic| walk_at "z") => `(tactic| with_reducible refine z_eqS ?_)
local macro_rules | `(tactic| walk_at "z") => `(tactic| with_reducible refine z_neS ?_)
local macro_rules | `(tactic| walk_at "z") => `(tactic| with_reducible refine z_isN ?_)
local macro_rules | `(tactic| walk_at "z") => `(tactic| with_reducible refine z_jsN ?_)
local macro_rules | `(tactic| walk_at "z") => `(tactic| with_reducible refine z_jsC ?_)
local macro_rules | `(tactic| walk_at "z") => `(tactic| with_reducible refine z_fmB ?_)
local macro_rules | `(tactic| walk_at "z") => `(tactic| ((with_reducible refine' z_cLit ?zl1 ?_); (case zl1 => first | with_reducible exact lt_0 | with_reducible exact lt_1 | with_reducible exact lt_2 | with_reducible exact lt_3 | with_reducible exact lt_4 | with_reducible exact lt_5 | with_reducible exact lt_6 | with_reducible exact lt_7 | with_reducible exact lt_8 | with_reducible exact lt_9 | with_reducible exact lt_10 | with_reducible exact lt_11 | with_reducible exact lt_12 | with_reducible exact lt_13 | with_reducible exact lt_14 | with_reducible exact lt_15 | with_reducible exact lt_16 | with_reducible exact lt_17 | with_reducible exact lt_18 | with_reducible exact lt_19 | with_reducible exact lt_20 | with_reducible exact lt_21)))
local macro_rules | `(tactic| walk_at "z") => `(tactic| with_reducible refine z_js0 ?_)
local macro_rules | `(tactic| walk_at "z") => `(tactic| ((with_reducible refine' z_mtR ?zl1 ?_); (case zl1 => walk_at "up")))
local macro_rules | `(tactic| walk_at "z") => `(tactic| ((with_reducible refine' z_c3L ?zl1 ?zl2 ?zl3 ?_); (case zl1 => walk_at "up"); (case zl2 => walk_at "up"); (case zl3 => (simp only [List.length_append, List.length_cons, List.length_nil]; decide)); intro p H' hp hs he))
local macro_rules | `(tactic| walk_at "z") => `(tactic| with_reducible refine z_orI ?_)
local macro_rules | `(tactic| walk_at "z") => `(tactic| with_reducible refine z_eqOI ?_)
local macro_rules | `(tactic| walk_at "z") => `(tactic| with_reducible refine z_a3J ?_)
local macro_rules | `(tactic| walk_at "z") => `(tactic| ((with_reducible refine' u_cell ?zl1 ?zl2 ?_); (case zl1 => walk_at "up"); (case zl2 => omega); intro cc))
local macro_rules | `(tactic| walk_at "z") => `(tactic| with_reducible refine z_p12 ?_)
local macro_rules | `(tactic| walk_at "z") => `(tactic| with_reducible refine z_p30 ?_)
local macro_rules | `(tactic| walk_at "z") => `(tactic| with_reducible refine z_p6 ?_)
local macro_rules | `(tactic| walk_at "z") => `(tactic| with_reducible refine z_mkn ?_)
theorem same00i {H H1 H2 : Hp} (h : Same H1 H2) (e : Same H H1) : Same H H2 := e.trans h
local macro_rules | `(tactic| walk_at "sm") => `(tactic| first
  | assumption
  | exact fun _ _ h => h
  | (refine' same00i (by assumption) ?zsm; case zsm => walk_at "sm"))
local macro_rules | `(tactic| walk_at "up") => `(tactic| first
  | assumption
  | (with_reducible refine' IsR.mono (by assumption) ?zup; case zup => walk_at "up")
  | (with_reducible refine' Same.at (by assumption) ?zup; case zup => walk_at "up")
  | (with_reducible refine' IsPool.mono (by assumption) ?zup; case zup => walk_at "up")
  | (with_reducible refine' Pr.mono (by assumption) ?zup; case zup => walk_at "up")
  | fail)
section
variable {P : Program} {w : World} {K : Frag} {mg : Str → Option Value} {base : Heap}
theorem ck_RatioD_initD_0_bottom_top (L : Lw K mg) : MakK P w K mg base 1 "Ratio" (He.ga K "Ratio") (sp3 (fs_rinit K)) 0 ["bottom", "top"] (fun vs zs => vs ++ zs.reverse) := by
  obtain ⟨fd, F⟩ := L.d_RatioD_initD
  exact ⟨⟨_, fd, ["self", "top", "bottom"], _, L.mk_Ratio, ok_RatioD_initD L F, L.g_Ratio, (kbD F (ps := ["self", "top", "bottom"]) 1 ["bottom", "top"] (by intro z; cases z) (fun _ _ _ _ _ _ _ us its ws hl hi hw => match us, its, ws, hl, hi, hw with | [_], [_], [_, _], _, _, _ => ⟨_, rfl, rfl⟩))⟩⟩
theorem ok_law (L : Lw K mg) {fd : FuncData} (F : FunD K "law" "law" (defArgs s_law) (defBody s_law) (defScope s_law) (df_law.dvs K) (df_law.kws K) (He.fAd K ("law", none)) fd) : FnOk P w K mg base (L2N.CX P w) 7 (He.fAd K ("law", none)) fd (["script"] : List Str) (sp1 (fs_law K)) := by
  refine FunD.ok F sc_law len1 (fun cdv A outer s H vs Q E hr h => ?_)
  obtain ⟨a, rfl, h⟩ := h
  refine ⟨_, (pss_cons (ps_set (i := 0) sc_law.nd rfl (by first | exact Or.inl rfl | exact Or.inr rfl) (pe_slice (slK rSlL (K := K) rfl sl_list) (pv 0) po_none (po_some pe_int)))
    (pss_cons (ps_set (i := 1) sc_law.nd rfl (by first | exact Or.inl rfl | exact Or.inr rfl) (pe_c (c_law_mod (K := K) L) hr (by decide) (L2N.takes_of rfl rfl rfl rfl) (pa_cons (pe_c (c_law_cell (K := K) L) hr (by decide) (L2N.takes_of rfl rfl rfl rfl) (pa_cons (pv 0) (pa_cons pe_int pa_nil))) (pa_cons pe_int pa_nil))))
    (pss_cons (ps_set (i := 2) sc_law.nd rfl (by first | exact Or.inl rfl | exact Or.inr rfl) (pe_c (c_law_fraction (K := K) L) hr (by decide) (L2N.takes_of rfl rfl rfl rfl) (pa_cons (pv 0) (pa_cons pe_int (pa_cons (pv 1) pa_nil)))))
    (pss_cons (ps_set (i := 3) sc_law.nd rfl (by first | exact Or.inl rfl | exact Or.inr rfl) (pe_c (c_law_other (K := K) L) hr (by decide) (L2N.takes_of rfl rfl rfl rfl) (pa_cons (pv 0) (pa_cons (pv 2) (pa_cons (pv 1) pa_nil)))))
    (pss_cons (ps_set (i := 4) sc_law.nd rfl (by first | exact Or.inl rfl | exact Or.inr rfl) (pe_mk (c_RatioD_initD (K := K) L) hr (by decide) (L2N.takes_of rfl rfl rfl rfl) (pa_cons (pe_op o_rep2 (pe_ix (ix_seqK (K := K) rfl) (pv 2) pe_int (fun _ _ => rfl)) (pe_ix (ix_seqK (K := K) rfl) (pv 2) pe_int (fun _ _ => rfl))) (pa_cons (pe_op o_rep2 (pe_ix (ix_seqK (K := K) rfl) (pv 2) pe_int (fun _ _ => rfl)) (pe_ix (ix_seqK (K := K) rfl) (pv 2) pe_int (fun _ _ => rfl))) pa_nil))))
    (pss_cons (ps_set (i := 5) sc_law.nd rfl (by first | exact Or.inl rfl | exact Or.inr rfl) (pe_mkk0 (ck_RatioD_initD_0_bottom_top (K := K) L) hr (by decide) passF (pk_cons (pe_op o_rep2 (pe_ix (ix_seqK (K := K) rfl) (pv 3) pe_int (fun _ _ => rfl)) (pe_ix (ix_seqK (K := K) rfl) (pv 3) pe_int (fun _ _ => rfl))) (pk_cons (pe_op o_rep2 (pe_ix (ix_seqK (K := K) rfl) (pv 3) pe_int (fun _ _ => rfl)) (pe_ix (ix_seqK (K := K) rfl) (pv 3) pe_int (fun _ _ => rfl))) pk_nil))))
    (pss_cons (ps_set (i := 6) sc_law.nd rfl (by first | exact Or.inl rfl | exact Or.inr rfl) (pe_c (c_law_low (K := K) L) hr (by decide) (L2N.takes_of rfl rfl rfl rfl) (pa_cons (pe_ix (ix_seqK (K := K) rfl) (pv 2) pe_int (fun _ _ => rfl)) (pa_cons (pe_ix (ix_seqK (K := K) rfl) (pv 2) pe_int (fun _ _ => rfl)) pa_nil))))
    (pss_cons (ps_set (i := 7) sc_law.nd rfl (by first | exact Or.inl rfl | exact Or.inr rfl) (pe_c (c_law_low (K := K) L) hr (by decide) (L2N.takes_of rfl rfl rfl rfl) (pa_cons (pe_ix (ix_seqK (K := K) rfl) (pv 3) pe_int (fun _ _ => rfl)) (pa_cons (pe_ix (ix_seqK (K := K) rfl) (pv 3) pe_int (fun _ _ => rfl)) pa_nil))))
    (pss_cons (ps_if (PW.pt (pw_or (pt_not (pt_val (pe_c (c_law_is (K := K) L) hr (by decide) (L2N.takes_of rfl rfl rfl rfl) (pa_cons (pv 4) (pa_cons (pv 6) pa_nil))))) (pw_or1 (pt_not (pt_val (pe_c (c_law_is (K := K) L) hr (by decide) (L2N.takes_of rfl rfl rfl rfl) (pa_cons (pv 5) (pa_cons (pv 7) pa_nil)))))))) (pss_one (ps_ret pe_bl)) pss_nil)
    (pss_cons (ps_if (pt_not (pt_val (pe_c (c_law_is (K := K) L) hr (by decide) (L2N.takes_of rfl rfl rfl rfl) (pa_cons (pe_mk (c1_RatioD_initD (K := K) L) hr (by decide) (L2N.takes_of rfl rfl rfl rfl) (pa_cons (pe_ix (ix_seqK (K := K) rfl) (pv 2) pe_int (fun _ _ => rfl)) pa_nil)) (pa_cons (pe_tup (pa_cons (pe_ix (ix_seqK (K := K) rfl) (pv 2) pe_int (fun _ _ => rfl)) (pa_cons pe_int pa_nil))) pa_nil))))) (pss_one (ps_ret pe_bl)) pss_nil)
    (pss_cons (ps_if (PW.pt (pw_or (pt_not (pt_val (pe_c (c_law_sums (K := K) L) hr (by decide) (L2N.takes_of rfl rfl rfl rfl) (pa_cons (pv 4) (pa_cons (pv 5) (pa_cons (pv 6) (pa_cons (pv 7) pa_nil))))))) (pw_or1 (pt_not (pt_val (pe_c (c_law_sums (K := K) L) hr (by decide) (L2N.takes_of rfl rfl rfl rfl) (pa_cons (pv 4) (pa_cons (pv 4) (pa_cons (pv 6) (pa_cons (pv 6) pa_nil)))))))))) (pss_one (ps_ret pe_bl)) pss_nil)
    (pss_cons (ps_if (PW.pt (pw_or (pt_not (pt_val (pe_c (c_law_sums (K := K) L) hr (by decide) (L2N.takes_of rfl rfl rfl rfl) (pa_cons (pv 5) (pa_cons (pv 4) (pa_cons (pv 7) (pa_cons (pv 6) pa_nil))))))) (pw_or1 (pt_not (pt_val (pe_c (c_law_quotient (K := K) L) hr (by decide) (L2N.takes_of rfl rfl rfl rfl) (pa_cons (pv 4) (pa_cons (pv 5) (pa_cons (pv 6) (pa_cons (pv 7) pa_nil)))))))))) (pss_one (ps_ret pe_bl)) pss_nil)
    (pss_cons (ps_if (pt_not (pt_val (pe_c (c_law_quotient (K := K) L) hr (by decide) (L2N.takes_of rfl rfl rfl rfl) (pa_cons (pv 5) (pa_cons (pv 4) (pa_cons (pv 7) (pa_cons (pv 6) pa_nil))))))) (pss_one (ps_ret pe_bl)) pss_nil)
    (pss_cons (ps_if (pt_not (pt_val (pe_c (c_law_quotient (K := K) L) hr (by decide) (L2N.takes_of rfl rfl rfl rfl) (pa_cons (pv 4) (pa_cons (pe_mk (c1_RatioD_initD (K := K) L) hr (by decide) (L2N.takes_of rfl rfl rfl rfl) (pa_cons pe_int pa_nil)) (pa_cons (pv 6) (pa_cons (pe_tup (pa_cons pe_int (pa_cons pe_int pa_nil))) pa_nil))))))) (pss_one (ps_ret pe_bl)) pss_nil)
    (pss_cons (ps_if (PW.pt (pw_or (pt_not (pt_val (pe_c (c_law_no_bottom (K := K) L) hr (by decide) (L2N.takes_of rfl rfl rfl rfl) (pa_cons (pe_op o_rep2 (pe_ix (ix_seqK (K := K) rfl) (pv 2) pe_int (fun _ _ => rfl)) (pe_ix (ix_seqK (K := K) rfl) (pv 2) pe_int (fun _ _ => rfl))) pa_nil)))) (pw_or1 (pt_not (pt_val (pe_c (c_law_no_bottom (K := K) L) hr (by decide) (L2N.takes_of rfl rfl rfl rfl) (pa_cons pe_int pa_nil))))))) (pss_one (ps_ret pe_bl)) pss_nil)
    (pss_cons (ps_if (PW.pt (pw_or (pt_not (pt_val (pe_c (c_law_alone (K := K) L) hr (by decide) (L2N.takes_of rfl rfl rfl rfl) (pa_cons (pv 4) (pa_cons (pv 6) pa_nil))))) (pw_or1 (pt_not (pt_val (pe_c (c_law_alone (K := K) L) hr (by decide) (L2N.takes_of rfl rfl rfl rfl) (pa_cons (pv 5) (pa_cons (pv 7) pa_nil)))))))) (pss_one (ps_ret pe_bl)) pss_nil)
    (pss_cons (ps_if (PW.pt (pw_or (pt_not (pt_val (pe_c (c_law_unlike (K := K) L) hr (by decide) (L2N.takes_of rfl rfl rfl rfl) (pa_cons (pv 4) (pa_cons (pv 6) pa_nil))))) (pw_or1 (pt_not (pt_val (pe_c (c_law_unlike (K := K) L) hr (by decide) (L2N.takes_of rfl rfl rfl rfl) (pa_cons (pv 5) (pa_cons (pv 7) pa_nil)))))))) (pss_one (ps_ret pe_bl)) pss_nil)
    (pss_cons (ps_set (i := 8) sc_law.nd rfl (by first | exact Or.inl rfl | exact Or.inr rfl) (pe_c (c_law_mod (K := K) L) hr (by decide) (L2N.takes_of rfl rfl rfl rfl) (pa_cons (pe_op o_cat3 (pe_c (c_law_cell (K := K) L) hr (by decide) (L2N.takes_of rfl rfl rfl rfl) (pa_cons (pv 0) (pa_cons pe_int pa_nil))) pe_int) (pa_cons pe_int pa_nil))))
    (pss_cons (ps_set (i := 9) sc_law.nd rfl (by first | exact Or.inl rfl | exact Or.inr rfl) (pe_lst (pa_cons pe_int (pa_cons pe_int (pa_cons (pv 8) pa_nil)))))
    (pss_cons (ps_if (pt_cmpR o_lt (pv 1) pe_int (nomark _)) (pss_one (ps_set (i := 9) sc_law.nd rfl (by first | exact Or.inl rfl | exact Or.inr rfl) (pe_lst (pa_cons pe_int (pa_cons pe_int (pa_cons (pv 8) (pa_cons pe_int pa_nil))))))) pss_nil)
    (pss_cons (ps_if (PW.pt (pw_or (pt_not (pt_val (pe_c (c_law_powers (K := K) L) hr (by decide) (L2N.takes_of rfl rfl rfl rfl) (pa_cons (pv 4) (pa_cons (pv 6) (pa_cons (pv 9) pa_nil)))))) (pw_or1 (pt_not (pt_val (pe_c (c_law_powers (K := K) L) hr (by decide) (L2N.takes_of rfl rfl rfl rfl) (pa_cons (pv 5) (pa_cons (pv 7) (pa_cons (pe_lst (pa_cons pe_int (pa_cons pe_int pa_nil))) pa_nil))))))))) (pss_one (ps_ret pe_bl)) pss_nil)
    (pss_cons (ps_set (i := 10) sc_law.nd rfl (by first | exact Or.inl rfl | exact Or.inr rfl) (pe_op o_cat3 pe_int (pe_c (c_law_mod (K := K) L) hr (by decide) (L2N.takes_of rfl rfl rfl rfl) (pa_cons (pe_c (c_law_cell (K := K) L) hr (by decide) (L2N.takes_of rfl rfl rfl rfl) (pa_cons (pv 0) (pa_cons pe_int pa_nil))) (pa_cons (pe_op o_pow pe_int pe_int) pa_nil)))))
    (pss_cons (ps_set (i := 11) sc_law.nd rfl (by first | exact Or.inl rfl | exact Or.inr rfl) (pe_op o_sub (pe_un o_neg pe_int) (pe_c (c_law_mod (K := K) L) hr (by decide) (L2N.takes_of rfl rfl rfl rfl) (pa_cons (pe_c (c_law_cell (K := K) L) hr (by decide) (L2N.takes_of rfl rfl rfl rfl) (pa_cons (pv 0) (pa_cons pe_int pa_nil))) (pa_cons pe_int pa_nil)))))
    (pss_cons (ps_for (passes_of rfl) rfl (pi_listK (K := K) rfl (pe_lst (pa_cons pe_int (pa_cons (pe_un o_neg pe_int) (pa_cons (pv 10) (pa_cons (pv 11) pa_nil)))))) (pg_name (i := 12) sc_law.nd rfl (by first | exact Or.inl rfl | exact Or.inr rfl)) (pss_one (ps_if (pt_not (pt_val (pe_c (c_law_no_power (K := K) L) hr (by decide) (L2N.takes_of rfl rfl rfl rfl) (pa_cons (pv 4) (pa_cons (pv 12) pa_nil))))) (pss_one (ps_ret pe_bl)) pss_nil)))
    (pss_cons (ps_if (pt_not (pt_val (pe_c (c_law_texts (K := K) L) hr (by decide) (L2N.takes_of rfl rfl rfl rfl) (pa_cons (pv 4) (pa_cons (pv 5) (pa_cons (pv 6) (pa_cons (pv 7) (pa_cons (pe_op o_cat3 pe_int (pe_c (c_law_mod (K := K) L) hr (by decide) (L2N.takes_of rfl rfl rfl rfl) (pa_cons (pe_c (c_law_cell (K := K) L) hr (by decide) (L2N.takes_of rfl rfl rfl rfl) (pa_cons (pv 0) (pa_cons pe_int pa_nil))) (pa_cons pe_int pa_nil)))) pa_nil)))))))) (pss_one (ps_ret pe_bl)) pss_nil)
    (pss_cons (ps_if (pt_not (pt_val (pe_c (c_law_refused (K := K) L) hr (by decide) (L2N.takes_of rfl rfl rfl rfl) (pa_cons (pe_op o_rep2 pe_str (pe_op o_cat3 pe_int (pe_c (c_law_mod (K := K) L) hr (by decide) (L2N.takes_of rfl rfl rfl rfl) (pa_cons (pe_op o_cat3 (pe_c (c_law_cell (K := K) L) hr (by decide) (L2N.takes_of rfl rfl rfl rfl) (pa_cons (pv 0) (pa_cons pe_int pa_nil))) pe_int) (pa_cons pe_int pa_nil))))) pa_nil)))) (pss_one (ps_ret pe_bl)) pss_nil)
    (pss_cons (ps_if (pt_not (pt_val (pe_c (c_law_sums (K := K) L) hr (by decide) (L2N.takes_of rfl rfl rfl rfl) (pa_cons (pv 4) (pa_cons (pv 5) (pa_cons (pv 6) (pa_cons (pv 7) pa_nil))))))) (pss_one (ps_ret pe_bl)) pss_nil)
    (pss_one (ps_ret (pe_and (pe_c (c_law_is (K := K) L) hr (by decide) (L2N.takes_of rfl rfl rfl rfl) (pa_cons (pv 4) (pa_cons (pv 6) pa_nil))) (pe_one (pe_c (c_law_is (K := K) L) hr (by decide) (L2N.takes_of rfl rfl rfl rfl) (pa_cons (pv 5) (pa_cons (pv 7) pa_nil)))))))))))))))))))))))))))))))))), ?_⟩
  rw [show L2.start (["script", "size", "first", "second", "a", "b", "one", "two", "count", "exponents", "above", "below", "exponent"] : List Str) [a] = [some a, none, none, none, none, none, none, none, none, none, none, none, none] from rfl]
  obtain ⟨p, ns, rfl, hS, hl, q⟩ := h
  try dsimp only [List.set]
  walk_at "zz"
  refine ⟨p, _, rfl, hS, fun c hc => ?_⟩
  rw [cut63 hl]
  have hp : IsPool (upd H c (.lst (ns.map V.int))) c := ⟨ns, upd_same⟩
  generalize upd H c (.lst (ns.map V.int)) = H0 at *
  try dsimp only [List.set]
  walk_at "zz"
  rename_i c0
  have z0 : 0 ≤ c0 % 8 ∧ c0 % 8 ≤ 7 := by omega
  generalize c0 % 8 = sz at *
  refine ⟨_, _, _, rfl, c, 1, sz, rfl, rfl, rfl, hp, by decide, by decide, z0.1, z0.2, fun t1 x y f H1 s1 e1 hf hy => ?_⟩
  have hp1 := hp.mono s1
  try dsimp only [List.set]
  walk_at "zz"
  refine ⟨_, _, _, rfl, c, t1, sz, x, y, f, rfl, rfl, rfl, hp1, e1, hf, hy, z0.1, z0.2, fun t2 u v g H2 s2 e2 hg hv => ?_⟩
  have hp2 := hp1.mono s2
  have e1b := s2 _ _ e1
  have f0 := hf.f0
  have f1 := hf.f1
  have g0 := hg.f0
  have g1 := hg.f1
  have ne1 : y * f ≠ 0 := Int.mul_ne_zero (by omega) f0
  have ne2 : v * g ≠ 0 := Int.mul_ne_zero hv g0
  obtain ⟨r1, r2⟩ := rt_scale (n := x) (show y ≠ 0 by omega) f0
  obtain ⟨r3, r4⟩ := rt_scale (n := u) hv g0
  have LA := lo_of hf.bx hf.bY (show y ≠ 0 by omega)
  have LB := lo_of hg.bx hg.bY hv
  try dsimp only [List.set]
  walk_at "zz"
  refine u_mkZ ne1 ((hf.bY.mul (fa_bits f1)).up (by decide)) (fun a H3 s3 ha => ?_)
  rw [r1, r2] at ha
  have hp3 := hp2.mono s3
  try dsimp only [List.set]
  walk_at "zz"
  refine u_mkN rfl ne2 ((hg.bY.mul (fa_bits g1)).up (by decide)) (fun b H4 s4 hb => ?_)
  rw [r3, r4] at hb
  have hp4 := hp3.mono s4
  try dsimp only [List.set]
  walk_at "zz"
  refine ⟨_, _, rfl, x, y, 1000, rfl, rfl, by omega, hf.bY, by decide, fun o1 H5 s5 ho1 => ?_⟩
  try dsimp only [List.set]
  walk_at "zz"
  refine ⟨_, _, rfl, u, v, 1000, rfl, rfl, hv, hg.bY, by decide, fun o2 H6 s6 ho2 => ?_⟩
  have PA : Pr K H6 a o1 (rt x y) (rb x y) := ⟨ha.mono ((s4.trans s5).trans s6), s6 _ _ ho1, LA⟩
  have PB : Pr K H6 b o2 (rt u v) (rb u v) := ⟨hb.mono (s5.trans s6), ho2, LB⟩
  have e1c : H6 t1 = some (.tup [.int x, .int y, .int f]) := s6 _ _ (s5 _ _ (s4 _ _ (s3 _ _ e1b)))
  have hp6 := (hp4.mono s5).mono s6
  try dsimp only [List.set]
  walk_at "zz"
  refine ⟨_, _, rfl, a, o1, _, _, rfl, rfl, PA.1, PA.2.1, ?_⟩
  try dsimp only [List.set]
  walk_at "zz"
  refine ⟨_, _, rfl, b, o2, _, _, rfl, rfl, PB.1, PB.2.1, ?_⟩
  try dsimp only [List.set]
  walk_at "zz"
  refine z_mkR1 (fun wr H7 s7 hw => ?_)
  try dsimp only [List.set]
  walk_at "zz"
  refine ⟨_, _, rfl, wr, _, _, _, rfl, rfl, IsR.mono (by walk_at "sm") hw, by walk_at "up", ?_⟩
  try dsimp only [List.set]
  walk_at "zz"
  refine ⟨_, _, _, _, rfl, a, b, o1, o2, rt x y, rb x y, rt u v, rb u v, rfl, rfl, rfl, rfl, PA.mono (by walk_at "sm"), PB.mono (by walk_at "sm"), fun S1 q1 => ?_⟩
  try dsimp only [List.set]
  walk_at "zz"
  refine ⟨_, _, _, _, rfl, a, a, o1, o1, rt x y, rb x y, rt x y, rb x y, rfl, rfl, rfl, rfl, PA.mono (by walk_at "sm"), PA.mono (by walk_at "sm"), fun S2 q2 => ?_⟩
  try dsimp only [List.set]
  walk_at "zz"
  refine ⟨_, _, _, _, rfl, b, a, o2, o1, rt u v, rb u v, rt x y, rb x y, rfl, rfl, rfl, rfl, PB.mono (by walk_at "sm"), PA.mono (by walk_at "sm"), fun S3 q3 => ?_⟩
  try dsimp only [List.set]
  walk_at "zz"
  refine ⟨_, _, _, _, rfl, a, b, o1, o2, rt x y, rb x y, rt u v, rb u v, rfl, rfl, rfl, rfl, PA.mono (by walk_at "sm"), PB.mono (by walk_at "sm"), fun S4 q4 => ?_⟩
  try dsimp only [List.set]
  walk_at "zz"
  refine ⟨_, _, _, _, rfl, b, a, o2, o1, rt u v, rb u v, rt x y, rb x y, rfl, rfl, rfl, rfl, PB.mono (by walk_at "sm"), PA.mono (by walk_at "sm"), fun S5 q5 => ?_⟩
  try dsimp only [List.set]
  walk_at "zz"
  refine z_mkR1 (fun zr S6 q6 hz => ?_)
  try dsimp only [List.set]
  walk_at "zz"
  rename_i z1 S7 hz1 q7 ez1
  have PZ : Pr K S7 zr z1 0 1 := ⟨hz.mono q7, ez1, ⟨by decide, by decide, Bits.zero, Bits.up (Bits.small (n := 1) (by decide) (by decide)) (by decide)⟩⟩
  refine ⟨_, _, _, _, rfl, a, zr, o1, z1, rt x y, rb x y, 0, 1, rfl, rfl, rfl, rfl, PA.mono (by walk_at "sm"), PZ.mono (by walk_at "sm"), fun S8 q8 => ?_⟩
  try dsimp only [List.set]
  walk_at "zz"
  refine ⟨_, rfl, _, rfl, fun S9 q9 => ?_⟩
  try dsimp only [List.set]
  walk_at "zz"
  refine ⟨_, rfl, _, rfl, fun SA qA => ?_⟩
  try dsimp only [List.set]
  walk_at "zz"
  refine ⟨_, _, rfl, a, o1, rt x y, rb x y, rfl, rfl, PA.mono (by walk_at "sm"), fun SB qB => ?_⟩
  try dsimp only [List.set]
  walk_at "zz"
  refine ⟨_, _, rfl, b, o2, rt u v, rb u v, rfl, rfl, PB.mono (by walk_at "sm"), fun SC qC => ?_⟩
  try dsimp only [List.set]
  walk_at "zz"
  refine ⟨_, _, rfl, a, o1, rt x y, rb x y, rfl, rfl, PA.mono (by walk_at "sm"), fun SD qD => ?_⟩
  try dsimp only [List.set]
  walk_at "zz"
  refine ⟨_, _, rfl, b, o2, rt u v, rb u v, rfl, rfl, PB.mono (by walk_at "sm"), fun SE qE => ?_⟩
  try dsimp only [List.set]
  walk_at "zz"
  rename_i c9 lE HE hE sE eE
  have cn : 0 ≤ (c9 + 2) % 65 ∧ (c9 + 2) % 65 ≤ 64 := by omega
  generalize (c9 + 2) % 65 = cnt at *
  refine z_d2 (fun c7 => ?_) (fun c7 => ?_)
  · try dsimp only [List.set]
    walk_at "zz"
    rename_i lE HE hE sE eE
    refine ⟨_, _, _, rfl, a, o1, lE, rt x y, rb x y, [0, 1, cnt, 64], rfl, rfl, rfl, PA.mono (by walk_at "sm"), eE, (by simp only [List.length_cons, List.length_nil]; decide), (fun n m => by simp only [List.mem_cons, List.not_mem_nil, or_false] at m; omega), fun Hp1 sp1 => ?_⟩
    try dsimp only [List.set]
    walk_at "zz"
    rename_i lF HF hF sF eF
    refine ⟨_, _, _, rfl, b, o2, lF, rt u v, rb u v, [2, 3], rfl, rfl, rfl, PB.mono (by walk_at "sm"), eF, by decide, (fun n m => by simp only [List.mem_cons, List.not_mem_nil, or_false] at m; omega), fun Hp2 sp2 => ?_⟩
    try dsimp only [List.set]
    walk_at "zz"
    rename_i ca cb lG HG hG sG eG
    have PA2 := PA.mono (show Same H6 HG by walk_at "sm")
    have PB2 := PB.mono (show Same H6 HG by walk_at "sm")
    have hpG := hp6.mono (show Same H6 HG by walk_at "sm")
    refine z_foV eG (fun i σ' H' => ∃ x12 : Option V, σ' = [some (.ref c), some (.int sz), some (.ref t1), some (.ref t2), some (.ref a), some (.ref b), some (.ref o1), some (.ref o2), some (.int cnt), some (.ref lE), some (.int (65 + ca % 1000000)), some (.int (-1 - cb % 99)), x12] ∧ Same HG H') ⟨_, rfl, fun _ _ h => h⟩ (fun i σ' H' z => by obtain ⟨_, _, s⟩ := z; exact s _ _ eG) ?_ ?_
    · rintro i xx σ' H' ex ⟨x12, rfl, sh⟩
      have m := List.mem_of_getElem? ex
      obtain ⟨n, rfl, hn⟩ : ∃ n : Int, xx = .int n ∧ ¬ (0 ≤ n ∧ n ≤ 64) := by
        simp only [List.mem_cons, List.not_mem_nil, or_false] at m
        rcases m with m | m | m | m <;> exact ⟨_, m, by omega⟩
      try dsimp only [List.set]
      walk_at "zz"
      refine ⟨_, _, rfl, a, rt x y, rb x y, n, rfl, rfl, (PA2.mono sh).1, LA, hn, fun HI sI => ?_⟩
      try dsimp only [List.set]
      walk_at "zz"
      exact ⟨_, rfl, sh.trans sI⟩
    rintro σ' HJ ⟨x12, rfl, sJ⟩
    have hpJ := hpG.mono sJ
    try dsimp only [List.set]
    walk_at "zz"
    rename_i cd
    obtain ⟨kk, hkk, hk0, hk1⟩ : ∃ kk : Nat, 295 + cd % 11 = ((kk + 1 : Nat) : Int) ∧ 290 ≤ kk ∧ kk ≤ 310 := ⟨(294 + cd % 11).toNat, by omega, by omega, by omega⟩
    rw [hkk]
    refine ⟨_, _, _, _, _, rfl, a, b, o1, o2, rt x y, rb x y, rt u v, rb u v, kk, rfl, rfl, rfl, rfl, rfl, PA2.mono sJ, PB2.mono sJ, hk0, hk1, fun HK sK => ?_⟩
    have hpK := hpJ.mono sK
    try dsimp only [List.set]
    walk_at "zz"
    rename_i ce
    refine z_r2S (by omega) (by omega) 55 ?_
    try dsimp only [List.set]
    walk_at "zz"
    refine ⟨_, rfl, _, rfl, asc_rep, by rw [List.length_replicate]; omega, S00.bad_seven (by omega), fun HL sL => ?_⟩
    try dsimp only [List.set]
    walk_at "zz"
    refine ⟨_, _, _, _, rfl, a, b, o1, o2, rt x y, rb x y, rt u v, rb u v, rfl, rfl, rfl, rfl, PA2.mono (by walk_at "sm"), PB2.mono (by walk_at "sm"), fun HM sM => ?_⟩
    try dsimp only [List.set]
    walk_at "zz"
    refine ⟨_, _, rfl, a, o1, _, _, rfl, rfl, (PA2.mono (show Same HG HM by walk_at "sm")).1, (PA2.mono (show Same HG HM by walk_at "sm")).2.1, ?_⟩
    try dsimp only [List.set]
    walk_at "zz"
    exact ⟨_, _, rfl, b, o2, _, _, rfl, rfl, (PB2.mono (show Same HG HM by walk_at "sm")).1, (PB2.mono (show Same HG HM by walk_at "sm")).2.1, q _⟩
  · try dsimp only [List.set]
    walk_at "zz"
    refine ⟨_, _, _, rfl, a, o1, lE, rt x y, rb x y, [0, 1, cnt], rfl, rfl, rfl, PA.mono (by walk_at "sm"), eE, (by simp only [List.length_cons, List.length_nil]; decide), (fun n m => by simp only [List.mem_cons, List.not_mem_nil, or_false] at m; omega), fun Hp1 sp1 => ?_⟩
    try dsimp only [List.set]
    walk_at "zz"
    rename_i lF HF hF sF eF
    refine ⟨_, _, _, rfl, b, o2, lF, rt u v, rb u v, [2, 3], rfl, rfl, rfl, PB.mono (by walk_at "sm"), eF, by decide, (fun n m => by simp only [List.mem_cons, List.not_mem_nil, or_false] at m; omega), fun Hp2 sp2 => ?_⟩
    try dsimp only [List.set]
    walk_at "zz"
    rename_i ca cb lG HG hG sG eG
    have PA2 := PA.mono (show Same H6 HG by walk_at "sm")
    have PB2 := PB.mono (show Same H6 HG by walk_at "sm")
    have hpG := hp6.mono (show Same H6 HG by walk_at "sm")
    refine z_foV eG (fun i σ' H' => ∃ x12 : Option V, σ' = [some (.ref c), some (.int sz), some (.ref t1), some (.ref t2), some (.ref a), some (.ref b), some (.ref o1), some (.ref o2), some (.int cnt), some (.ref lE), some (.int (65 + ca % 1000000)), some (.int (-1 - cb % 99)), x12] ∧ Same HG H') ⟨_, rfl, fun _ _ h => h⟩ (fun i σ' H' z => by obtain ⟨_, _, s⟩ := z; exact s _ _ eG) ?_ ?_
    · rintro i xx σ' H' ex ⟨x12, rfl, sh⟩
      have m := List.mem_of_getElem? ex
      obtain ⟨n, rfl, hn⟩ : ∃ n : Int, xx = .int n ∧ ¬ (0 ≤ n ∧ n ≤ 64) := by
        simp only [List.mem_cons, List.not_mem_nil, or_false] at m
        rcases m with m | m | m | m <;> exact ⟨_, m, by omega⟩
      try dsimp only [List.set]
      walk_at "zz"
      refine ⟨_, _, rfl, a, rt x y, rb x y, n, rfl, rfl, (PA2.mono sh).1, LA, hn, fun HI sI => ?_⟩
      try dsimp only [List.set]
      walk_at "zz"
      exact ⟨_, rfl, sh.trans sI⟩
    rintro σ' HJ ⟨x12, rfl, sJ⟩
    have hpJ := hpG.mono sJ
    try dsimp only [List.set]
    walk_at "zz"
    rename_i cd
    obtain ⟨kk, hkk, hk0, hk1⟩ : ∃ kk : Nat, 295 + cd % 11 = ((kk + 1 : Nat) : Int) ∧ 290 ≤ kk ∧ kk ≤ 310 := ⟨(294 + cd % 11).toNat, by omega, by omega, by omega⟩
    rw [hkk]
    refine ⟨_, _, _, _, _, rfl, a, b, o1, o2, rt x y, rb x y, rt u v, rb u v, kk, rfl, rfl, rfl, rfl, rfl, PA2.mono sJ, PB2.mono sJ, hk0, hk1, fun HK sK => ?_⟩
    have hpK := hpJ.mono sK
    try dsimp only [List.set]
    walk_at "zz"
    rename_i ce
    refine z_r2S (by omega) (by omega) 55 ?_
    try dsimp only [List.set]
    walk_at "zz"
    refine ⟨_, rfl, _, rfl, asc_rep, by rw [List.length_replicate]; omega, S00.bad_seven (by omega), fun HL sL => ?_⟩
    try dsimp only [List.set]
    walk_at "zz"
    refine ⟨_, _, _, _, rfl, a, b, o1, o2, rt x y, rb x y, rt u v, rb u v, rfl, rfl, rfl, rfl, PA2.mono (by walk_at "sm"), PB2.mono (by walk_at "sm"), fun HM sM => ?_⟩
    try dsimp only [List.set]
    walk_at "zz"
    refine ⟨_, _, rfl, a, o1, _, _, rfl, rfl, (PA2.mono (show Same HG HM by walk_at "sm")).1, (PA2.mono (show Same HG HM by walk_at "sm")).2.1, ?_⟩
    try dsimp only [List.set]
    walk_at "zz"
    exact ⟨_, _, rfl, b, o2, _, _, rfl, rfl, (PB2.mono (show Same HG HM by walk_at "sm")).1, (PB2.mono (show Same HG HM by walk_at "sm")).2.1, q _⟩
end
end T
set_option maxHeartbeats 0
open PySem PySem.W PySem.Calls PyProof.Rows
theorem PySem.Challenge.cw_belownought_k00_ratio_rules_holds : PySem.Challenge.rw_belownought_k00_ratio_rules.Holds := by
  w_on; o_law
  refine HandSHeadRun.head_imp (r := T.R) (q := view T.R.prog [0, 39]) (H := T.hk) (ob := T.ob) (M := 12000) (loose := T.loose) (d := HandSHeadRun.topDef T.R.prog 39) (kwd := []) T.ob_eq T.run
    (by kernel_rfl) (by kernel_rfl) (by kernel_rfl) (by rfl) (by first | assumption | decide +kernel) (by decide +kernel) ⟨rfl, rfl, rfl, rfl, rfl, by decide +kernel⟩ ?hw ?hc
  case hw => w_witness2
  case hc =>
    refine L2.walk_ofE (l := PySem.Challenge.rw_belownought_k00_ratio_rules) (n := 63) (k := 7) (x := "script") (CX := L2.CX0) rfl (by decide) (by kernel_rfl) ⟨rfl, by decide, by decide⟩ ?F (fun _ _ _ _ z => z)
    case F =>
      intro w mg fa h Y G hmg0
      obtain ⟨K, KX, c⟩ := Y
      have hmg : mg ("law" : PySem.Str) = some (.ref fa) := by
        have e : (HandSHeadRun.topDef T.R.prog 39).name = ("law" : PySem.Str) := by kernel_rfl
        rw [← e]
        exact hmg0
      have L : T.Lw K mg := ⟨⟨h, KX, G⟩, c⟩
      obtain ⟨fd, F⟩ := L.d_law
      have e := hmg.symm.trans L.g_law
      cases e
      refine ⟨K, fd, Z.sp1 (Z.fs_law K), KX, fun s v => F.bindsA (ps := ["script"]) (fun _ _ _ _ _ _ us hl => match us, hl with | [_], _ => rfl) s [v] rfl, fun H a ns hl _ hS => ⟨_, rfl, a, ns, rfl, hS, hl, fun _ => rfl⟩, fun base _ _ => ?_⟩
      exact Z.law_quiet (T.ok_law L F) (by decide)
